import PyProof.Rows.All
import Wide.All
import OpenK.AllK
import Wide.FinOn
import HandS.ForMost
import HandS.Exc
import HandS.TryOnly
import HandS.ExcOwn
import HandS.WordsExc
import HandS.Wide
import HandS.IsInst
import HandS.Evl
import HandS.Style
import HandS.More
import KE.DataEq
import HandS.Replace
import KE.IntTextLaws
import KE.SortData
import HandS.TupAny
import HandS.ExcIs
import KE.DataMinMax
import PyProof.P3Eq
import PyProof.ReprRoads
import PyProof.ReprLen
import HandS.DictComp
import HandS.SetFor
import PySem.Challenge.RW_usher_k32_whole_height
set_option Elab.async false
set_option linter.all false
set_option maxRecDepth 100000
set_option maxHeartbeats 4000000
/-! the layer SL: descriptions of values over a heap that only grows, owned cells, judgements upon the text itself -/
namespace SL
open PySem PySem.Spec PyProof.Rows L2

theorem same_rd {H H' : Hp} {a : Addr} {u : HO} (e : Same H H') (h : Rd H a u) : Rd H' a u := by
  rcases h with h | ⟨o, h⟩
  · exact .inl (e _ _ h)
  · exact .inr ⟨o, e _ _ h⟩
theorem same_l {K : PySem.W.Frag} {H H' : Hp} {a : Addr} {xs : List V} (e : Same H H') (h : SqL K H a xs) : SqL K H' a xs := e.seq h
theorem same_t {K : PySem.W.Frag} {H H' : Hp} {a : Addr} {xs : List V} (e : Same H H') (h : SqT K H a xs) : SqT K H' a xs := by
  rcases h with h | h
  · exact .inl (same_rd e h)
  · exact .inr h
theorem same_new {H : Hp} {p : Addr} {o : HO} (h : H p = none) : Same H (upd H p o) := fun a u e => by
  rw [upd_ne (ne_of_none e h)]
  exact e
theorem same_under {H H' : Hp} {p : Addr} {o : HO} (e : Same H H') (h : H p = none) : Same H (upd H' p o) := fun a u ha => by
  rw [upd_ne (ne_of_none ha h)]
  exact e a u ha
theorem same_both {H H' : Hp} {p : Addr} {o : HO} (e : Same H H') : Same (upd H p o) (upd H' p o) := fun a u ha => by
  by_cases h : a = p
  · subst h
    rw [upd_same] at ha ⊢
    exact ha
  · rw [upd_ne h] at ha ⊢
    exact e a u ha
mutual
/-- data in made lists and in tuples -/
inductive Da (K : PySem.W.Frag) (H : Hp) : V → PyData → Prop
  | non : Da K H .non .none
  | bl (b : Bool) : Da K H (.bl b) (.bool b)
  | int (i : Int) : Da K H (.int i) (.int i)
  | str (x : Str) : Da K H (.str x) (.str x)
  | lst {a : Addr} {xs : List V} {ds : List PyData} : H a = some (.lst xs) → DaAll K H xs ds → Da K H (.ref a) (.list ds)
  | tup {a : Addr} {xs : List V} {ds : List PyData} : SqT K H a xs → DaAll K H xs ds → Da K H (.ref a) (.tuple ds)
inductive DaAll (K : PySem.W.Frag) (H : Hp) : List V → List PyData → Prop
  | nil : DaAll K H [] []
  | cons {v : V} {vs : List V} {d : PyData} {ds : List PyData} : Da K H v d → DaAll K H vs ds → DaAll K H (v :: vs) (d :: ds)
end
mutual
theorem da_dp {K : PySem.W.Frag} {H : Hp} : ∀ {v : V} {d : PyData}, Da K H v d → Dp K H v d
  | _, _, .non => .non
  | _, _, .bl b => .bl b
  | _, _, .int i => .int i
  | _, _, .str x => .str x
  | _, _, .lst h r => .lst (SqL.of h) (daAll_dp r)
  | _, _, .tup h r => .tup h (daAll_dp r)
theorem daAll_dp {K : PySem.W.Frag} {H : Hp} : ∀ {vs : List V} {ds : List PyData}, DaAll K H vs ds → DpAll K H vs ds
  | _, _, .nil => .nil
  | _, _, .cons h r => .cons (da_dp h) (daAll_dp r)
end
mutual
theorem da_same {K : PySem.W.Frag} {H H' : Hp} (e : Same H H') : ∀ {v : V} {d : PyData}, Da K H v d → Da K H' v d
  | _, _, .non => .non
  | _, _, .bl b => .bl b
  | _, _, .int i => .int i
  | _, _, .str x => .str x
  | _, _, .lst h r => .lst (e _ _ h) (daAll_same e r)
  | _, _, .tup h r => .tup (same_t e h) (daAll_same e r)
theorem daAll_same {K : PySem.W.Frag} {H H' : Hp} (e : Same H H') : ∀ {vs : List V} {ds : List PyData}, DaAll K H vs ds → DaAll K H' vs ds
  | _, _, .nil => .nil
  | _, _, .cons h r => .cons (da_same e h) (daAll_same e r)
end
theorem daAll_len {K : PySem.W.Frag} {H : Hp} : ∀ {vs : List V} {ds : List PyData}, DaAll K H vs ds → vs.length = ds.length
  | _, _, .nil => rfl
  | _, _, .cons _ r => by rw [List.length_cons, List.length_cons, daAll_len r]
theorem daAll_get {K : PySem.W.Frag} {H : Hp} : ∀ {vs : List V} {ds : List PyData} {i : Nat} {v : V}, DaAll K H vs ds → vs[i]? = some v → ∃ d, ds[i]? = some d ∧ Da K H v d
  | _, _, _, _, .nil, e => by simp at e
  | _, _, 0, _, .cons h _, e => by
    simp at e
    subst e
    exact ⟨_, rfl, h⟩
  | _, _, i + 1, v, .cons _ r, e => by
    obtain ⟨d, e1, h1⟩ := daAll_get (i := i) (v := v) r (by simpa using e)
    exact ⟨d, by simpa using e1, h1⟩
theorem daAll_get' {K : PySem.W.Frag} {H : Hp} : ∀ {vs : List V} {ds : List PyData} {i : Nat} {d : PyData}, DaAll K H vs ds → ds[i]? = some d → ∃ v, vs[i]? = some v ∧ Da K H v d
  | _, _, _, _, .nil, e => by simp at e
  | _, _, 0, _, .cons h _, e => by
    simp at e
    subst e
    exact ⟨_, rfl, h⟩
  | _, _, i + 1, d, .cons _ r, e => by
    obtain ⟨v, e1, h1⟩ := daAll_get' (i := i) (d := d) r (by simpa using e)
    exact ⟨v, by simpa using e1, h1⟩
theorem daAll_app {K : PySem.W.Frag} {H : Hp} : ∀ {vs ws : List V} {ds es : List PyData}, DaAll K H vs ds → DaAll K H ws es → DaAll K H (vs ++ ws) (ds ++ es)
  | _, _, _, _, .nil, r => r
  | _, _, _, _, .cons h t, r => .cons h (daAll_app t r)
theorem daAll_take {K : PySem.W.Frag} {H : Hp} : ∀ {vs : List V} {ds : List PyData} (n : Nat), DaAll K H vs ds → DaAll K H (vs.take n) (ds.take n)
  | _, _, 0, _ => by rw [List.take_zero, List.take_zero]; exact .nil
  | _, _, _ + 1, .nil => .nil
  | _, _, n + 1, .cons h t => .cons h (daAll_take n t)
theorem daAll_drop {K : PySem.W.Frag} {H : Hp} : ∀ {vs : List V} {ds : List PyData} (n : Nat), DaAll K H vs ds → DaAll K H (vs.drop n) (ds.drop n)
  | _, _, 0, r => r
  | _, _, _ + 1, .nil => .nil
  | _, _, n + 1, .cons _ t => daAll_drop n t
theorem daAll_set {K : PySem.W.Frag} {H : Hp} {v : V} {d : PyData} (h : Da K H v d) : ∀ {vs : List V} {ds : List PyData} (n : Nat), DaAll K H vs ds → DaAll K H (vs.set n v) (ds.set n d)
  | _, _, _, .nil => .nil
  | _, _, 0, .cons _ t => .cons h t
  | _, _, n + 1, .cons g t => .cons g (daAll_set h n t)

/-! ### what is said of a value -/
structure Sl where
  r : PySem.W.Frag → Hp → V → Prop
  mono : ∀ {K H H' v}, Same H H' → r K H v → r K H' v
/-- this very value -/
def sv (v : V) : Sl := ⟨fun _ _ x => x = v, fun _ h => h⟩
/-- such data -/
def sd (d : PyData) : Sl := ⟨fun K H x => Da K H x d, fun e h => da_same e h⟩
/-- the description of data: scalars by their value -/
def sl : PyData → Sl
  | .none => sv .non
  | .bool b => sv (.bl b)
  | .int i => sv (.int i)
  | .str x => sv (.str x)
  | d => sd d
theorem sl_da {K : PySem.W.Frag} {H : Hp} {v : V} {d : PyData} : (sl d).r K H v ↔ Da K H v d := by
  constructor
  · intro h
    cases d with
    | none => cases (show v = .non from h); exact .non
    | bool b => cases (show v = .bl b from h); exact .bl b
    | int i => cases (show v = .int i from h); exact .int i
    | str x => cases (show v = .str x from h); exact .str x
    | list _ => exact h
    | tuple _ => exact h
    | dict _ => exact h
  · intro h
    cases h with
    | non => rfl
    | bl b => rfl
    | int i => rfl
    | str x => rfl
    | lst h r => exact Da.lst h r
    | tup h r => exact Da.tup h r
inductive All2 {α β : Type} (F : α → β → Prop) : List α → List β → Prop
  | nil : All2 F [] []
  | cons {a b as bs} : F a b → All2 F as bs → All2 F (a :: as) (b :: bs)
theorem All2.len {α β : Type} {F : α → β → Prop} : ∀ {as : List α} {bs : List β}, All2 F as bs → as.length = bs.length
  | _, _, .nil => rfl
  | _, _, .cons _ r => by rw [List.length_cons, List.length_cons, r.len]
theorem All2.imp {α β : Type} {F G : α → β → Prop} (h : ∀ a b, F a b → G a b) : ∀ {as : List α} {bs : List β}, All2 F as bs → All2 G as bs
  | _, _, .nil => .nil
  | _, _, .cons p r => .cons (h _ _ p) (r.imp h)
theorem All2.get {α β : Type} {F : α → β → Prop} : ∀ {as : List α} {bs : List β} {i : Nat} {a : α}, All2 F as bs → as[i]? = some a → ∃ b, bs[i]? = some b ∧ F a b
  | _, _, _, _, .nil, e => by simp at e
  | _, _, 0, _, .cons h _, e => by
    simp at e
    subst e
    exact ⟨_, rfl, h⟩
  | _, _, i + 1, a, .cons _ r, e => by
    obtain ⟨b, e1, h1⟩ := All2.get (i := i) (a := a) r (by simpa using e)
    exact ⟨b, by simpa using e1, h1⟩
theorem All2.set {α β : Type} {F : α → β → Prop} {a : α} {b : β} (h : F a b) : ∀ {as : List α} {bs : List β} (i : Nat), All2 F as bs → All2 F (as.set i a) (bs.set i b)
  | _, _, _, .nil => .nil
  | _, _, 0, .cons _ t => .cons h t
  | _, _, i + 1, .cons g t => .cons g (All2.set h i t)
theorem All2.app {α β : Type} {F : α → β → Prop} : ∀ {as as' : List α} {bs bs' : List β}, All2 F as bs → All2 F as' bs' → All2 F (as ++ as') (bs ++ bs')
  | _, _, _, _, .nil, r => r
  | _, _, _, _, .cons h t, r => .cons h (t.app r)
theorem All2.eraseIdx {α β : Type} {F : α → β → Prop} : ∀ {as : List α} {bs : List β} (i : Nat), All2 F as bs → All2 F (as.eraseIdx i) (bs.eraseIdx i)
  | _, _, _, .nil => .nil
  | _, _, 0, .cons _ t => t
  | _, _, i + 1, .cons g t => .cons g (All2.eraseIdx i t)

/-- a tuple of such -/
def stup (ss : List Sl) : Sl := ⟨fun K H x => ∃ p vs, x = .ref p ∧ SqT K H p vs ∧ All2 (fun (s : Sl) v => s.r K H v) ss vs, fun e ⟨p, vs, h1, h2, h3⟩ => ⟨p, vs, h1, same_t e h2, h3.imp fun s v h => s.mono e h⟩⟩
/-- one of two -/
def sif (c : Bool) (s t : Sl) : Sl := if c then s else t

/-! ### owned things: what is said of a part of the heap of one's own -/
structure Res where
  r : PySem.W.Frag → Hp → Hp → Prop
  mono : ∀ {K S S' O}, Same S S' → r K S O → r K S' O
def hOne (p : Addr) (o : HO) : Hp := fun a => if a = p then some o else none
theorem hOne_same {p : Addr} {o : HO} : hOne p o p = some o := if_pos rfl
theorem hOne_ne {p a : Addr} {o : HO} (h : a ≠ p) : hOne p o a = none := if_neg h
theorem hOne_some {p a : Addr} {o u : HO} (h : hOne p o a = some u) : a = p ∧ u = o := by
  unfold hOne at h
  by_cases e : a = p
  · rw [if_pos e] at h
    exact ⟨e, (Option.some.inj h).symm⟩
  · rw [if_neg e] at h
    cases h
theorem hOne_not {p a : Addr} {o : HO} (h : hOne p o a ≠ none) : a = p := by
  by_cases e : a = p
  · exact e
  · exact absurd (hOne_ne e) h
/-- a list at p, of such data -/
def rL (p : Addr) (ds : List PyData) : Res := ⟨fun K S O => ∃ vs, O = hOne p (.lst vs) ∧ DaAll K S vs ds, fun e ⟨vs, h1, h2⟩ => ⟨vs, h1, daAll_same e h2⟩⟩
/-- a list at p, of such values -/
def rLs (p : Addr) (ss : List Sl) : Res := ⟨fun K S O => ∃ vs, O = hOne p (.lst vs) ∧ All2 (fun (s : Sl) v => s.r K S v) ss vs, fun e ⟨vs, h1, h2⟩ => ⟨vs, h1, h2.imp fun s v h => s.mono e h⟩⟩
/-- a dict at p -/
def rD (p : Addr) (kds : List (Key × PyData)) : Res :=
  ⟨fun K S O => ∃ kvs, O = hOne p (.dK kvs) ∧ All2 (fun (a : Key × PyData) (b : Key × V) => a.1 = b.1 ∧ Da K S b.2 a.2) kds kvs, fun e ⟨kvs, h1, h2⟩ => ⟨kvs, h1, h2.imp fun a b h => ⟨h.1, da_same e h.2⟩⟩⟩

/-- apart from one another, parts of H, apart from S -/
structure Own (K : PySem.W.Frag) (S H : Hp) (R : List Res) (Os : List Hp) : Prop where
  all : All2 (fun (ρ : Res) O => ρ.r K S O ∧ Same O H ∧ ∀ a, O a ≠ none → S a = none) R Os
  dis : Os.Pairwise fun O O' => ∀ a, O a ≠ none → O' a = none
def InOs (Os : List Hp) (a : Addr) : Prop := ∃ O ∈ Os, O a ≠ none

/-- the entry of a def: the heap, its lasting part, what is its own -/
structure Ent where
  H0 : Hp
  S0 : Hp
  A0 : Addr → Prop
/-- a state within a def -/
structure SR (K : PySem.W.Frag) (E : Ent) (Γ : List (Option Sl)) (R : List Res) (S : Hp) (σ : L2.St) (H : Hp) : Prop where
  sub : Same S H
  ext : Same E.S0 S
  fr : ∀ a o, E.H0 a = some o → ¬ E.A0 a → H a = some o
  new : ∀ a, S a ≠ none → E.S0 a ≠ none ∨ E.H0 a = none ∨ E.A0 a
  own : ∃ Os, Own K S H R Os ∧ ∀ O ∈ Os, ∀ a, O a ≠ none → E.A0 a ∨ E.H0 a = none
  slots : All2 (fun (s : Option Sl) (o : Option V) => ∀ s', s = some s' → ∃ v, o = some v ∧ s'.r K S v) Γ σ

section
variable {K : PySem.W.Frag} {E : Ent} {Γ Γ' : List (Option Sl)} {R R' : List Res} {S S' H H' : Hp} {σ : L2.St} {p : Addr} {o : HO} {v : V}

theorem SR.slot (q : SR K E Γ R S σ H) {k : Nat} {s : Sl} (h : Γ[k]? = some (some s)) : ∃ v, σ[k]? = some (some v) ∧ s.r K S v := by
  obtain ⟨o, e, h1⟩ := q.slots.get h
  obtain ⟨v, e2, h2⟩ := h1 s rfl
  exact ⟨v, by rw [e, e2], h2⟩
theorem SR.setSlot (q : SR K E Γ R S σ H) (k : Nat) {s : Sl} (h : s.r K S v) : SR K E (Γ.set k (some s)) R S (σ.set k (some v)) H :=
  ⟨q.sub, q.ext, q.fr, q.new, q.own, All2.set (fun s' e => ⟨v, rfl, by rw [← Option.some.inj e]; exact h⟩) k q.slots⟩
theorem SR.free (q : SR K E Γ R S σ H) (h : H p = none) : S p = none := q.sub.free h
/-- something new, lasting -/
theorem SR.grow (q : SR K E Γ R S σ H) (h : H p = none) : SR K E Γ R (upd S p o) σ (upd H p o) where
  sub := same_both q.sub
  ext := same_under q.ext (by
    cases e : E.S0 p with
    | none => rfl
    | some u => rw [q.sub p u (q.ext p u e)] at h; cases h)
  fr := fun a u e n => by
    by_cases ha : a = p
    · subst ha; rw [q.fr a u e n] at h; cases h
    · rw [upd_ne ha]; exact q.fr a u e n
  new := fun a ha => by
    by_cases e : a = p
    · subst e
      by_cases n : E.A0 a
      · exact .inr (.inr n)
      · cases e0 : E.H0 a with
        | none => exact .inr (.inl rfl)
        | some u => rw [q.fr a u e0 n] at h; cases h
    · rw [upd_ne e] at ha; exact q.new a ha
  own := by
    obtain ⟨Os, ⟨h1, h2⟩, h3⟩ := q.own
    refine ⟨Os, ⟨h1.imp fun ρ O hh => ⟨ρ.mono (same_new (q.free h)) hh.1, same_under hh.2.1 ?_, fun a ha => ?_⟩, h2⟩, h3⟩
    · cases e : O p with
      | none => rfl
      | some u => rw [hh.2.1 p u e] at h; cases h
    · have ne : a ≠ p := by
        rintro rfl
        cases e : O a with
        | none => exact ha e
        | some u => rw [hh.2.1 a u e] at h; cases h
      rw [upd_ne ne]
      exact hh.2.2 a ha
  slots := q.slots.imp fun s o h1 s' e => let ⟨v, h2, h3⟩ := h1 s' e; ⟨v, h2, s'.mono (same_new (q.free h)) h3⟩
theorem pairwise_app {α : Type} {P : α → α → Prop} {l : List α} {x : α} (h : l.Pairwise P) (hx : ∀ y ∈ l, P y x) : (l ++ [x]).Pairwise P :=
  List.pairwise_append.mpr ⟨h, List.pairwise_singleton _ _, fun a ha b hb => by rw [List.mem_singleton.mp hb]; exact hx a ha⟩
theorem all2_mem {α β : Type} {F : α → β → Prop} : ∀ {as : List α} {bs : List β} {b : β}, All2 F as bs → b ∈ bs → ∃ a ∈ as, F a b
  | _, _, _, .nil, h => by simp at h
  | _, _, b, .cons p r, h => by
    rcases List.mem_cons.mp h with e | h
    · subst e; exact ⟨_, List.mem_cons_self, p⟩
    · obtain ⟨a, h1, h2⟩ := all2_mem r h
      exact ⟨a, List.mem_cons_of_mem _ h1, h2⟩
/-- something new, one's own -/
theorem SR.mine (q : SR K E Γ R S σ H) {ρ : Res} (h : H p = none) (hr : ρ.r K S (hOne p o)) : SR K E Γ (R ++ [ρ]) S σ (upd H p o) where
  sub := same_under q.sub (q.free h)
  ext := q.ext
  fr := fun a u e n => by
    by_cases ha : a = p
    · subst ha; rw [q.fr a u e n] at h; cases h
    · rw [upd_ne ha]; exact q.fr a u e n
  new := q.new
  own := by
    obtain ⟨Os, ⟨h1, h2⟩, h3⟩ := q.own
    have h1' : All2 (fun (ρ : Res) O => ρ.r K S O ∧ Same O (upd H p o) ∧ ∀ a, O a ≠ none → S a = none) R Os := h1.imp fun ρ O hh => ⟨hh.1, same_under hh.2.1 (by
      cases e : O p with
      | none => rfl
      | some u => rw [hh.2.1 p u e] at h; cases h), hh.2.2⟩
    refine ⟨Os ++ [hOne p o], ⟨h1'.app (.cons ⟨hr, fun a u e => ?_, fun a ha => ?_⟩ .nil), pairwise_app h2 fun O hO a ha => ?_⟩, fun O hO a ha => ?_⟩
    · obtain ⟨e1, e2⟩ := hOne_some e
      subst e1 e2
      exact upd_same
    · rw [hOne_not ha]
      exact q.free h
    · have ne : a ≠ p := by
        rintro rfl
        obtain ⟨ρ', _, hh⟩ := all2_mem h1 hO
        cases e : O a with
        | none => exact ha e
        | some u => rw [hh.2.1 a u e] at h; cases h
      exact hOne_ne ne
    · rcases List.mem_append.mp hO with hO | hO
      · exact h3 O hO a ha
      · rw [List.mem_singleton.mp hO] at ha
        rw [hOne_not ha]
        by_cases n : E.A0 p
        · exact .inl n
        · cases e0 : E.H0 p with
          | none => exact .inr rfl
          | some u => rw [q.fr p u e0 n] at h; cases h
  slots := q.slots
theorem SR.weakΓ (q : SR K E Γ R S σ H) (h : All2 (fun (s : Option Sl) (o : Option Sl) => ∀ s', s = some s' → ∃ t, o = some t ∧ ∀ v, t.r K S v → s'.r K S v) Γ' Γ) : SR K E Γ' R S σ H := by
  refine ⟨q.sub, q.ext, q.fr, q.new, q.own, ?_⟩
  have hs := q.slots
  clear q
  induction h generalizing σ with
  | nil => cases hs; exact .nil
  | cons p _ ih =>
    cases hs with
    | cons a b =>
      refine .cons (fun s' e => ?_) (ih b)
      obtain ⟨t, e2, h2⟩ := p s' e
      obtain ⟨v, e3, h3⟩ := a t e2
      exact ⟨v, e3, h2 v h3⟩
end
end SL

/-! judgements upon expressions -/
namespace SL
open PySem PySem.Spec PyProof.Rows L2

/-- many contexts with one world -/
structure Fam {ι : Type} (X : ι → Cx) (P : Program) (w : World) (K : PySem.W.Frag) (mg : Str → Option Value) (base : Heap) (A : Around) (N : List Str) : Prop where
  fP : ∀ i, (X i).prog = P
  fw : ∀ i, (X i).w = w
  fK : ∀ i, (X i).K = K
  fmg : ∀ i, (X i).mg = mg
  fbase : ∀ i, (X i).base = base
  fA : ∀ i, (X i).A = A
  fN : ∀ i, (X i).N = N
  nd : List.Nodup N
abbrev Slots := List (Option Sl)
def Kont (K : PySem.W.Frag) (E : Ent) (Γ : Slots) (R' : List Res) (σ : L2.St) (S : Hp) (s : Sl) (Q : VK) : Prop :=
  ∀ v S' H', Same S S' → SR K E Γ R' S' σ H' → s.r K S' v → Q v H'
def KontB (K : PySem.W.Frag) (E : Ent) (Γ : Slots) (R' : List Res) (σ : L2.St) (S : Hp) (b : Bool) (Q : Bool → Hp → Prop) : Prop :=
  ∀ S' H', Same S S' → SR K E Γ R' S' σ H' → Q b H'
def KontA (K : PySem.W.Frag) (E : Ent) (Γ : Slots) (R' : List Res) (σ : L2.St) (S : Hp) (ss : List Sl) (Q : List V → Hp → Prop) : Prop :=
  ∀ vs S' H', Same S S' → SR K E Γ R' S' σ H' → All2 (fun (s : Sl) v => s.r K S' v) ss vs → Q vs H'
section
variable {ι : Type} (X : ι → Cx) (K : PySem.W.Frag) (E : Ent)
/-- e gives a value of which s is said -/
def EvJ (Γ : Slots) (R : List Res) (e : Expr) (R' : List Res) (s : Sl) : Prop :=
  ∃ t : TE, (∀ i, PE (X i) e t) ∧ ∀ S σ H (Q : VK), SR K E Γ R S σ H → Kont K E Γ R' σ S s Q → t σ H Q
/-- the same, by something that is chosen on the way (an address) -/
def EvN {ν : Type} (Γ : Slots) (R : List Res) (e : Expr) (R' : ν → List Res) (s : ν → Sl) : Prop :=
  ∃ t : TE, (∀ i, PE (X i) e t) ∧ ∀ S σ H (Q : VK), SR K E Γ R S σ H → (∀ n, Kont K E Γ (R' n) σ S (s n) Q) → t σ H Q
/-- a new list -/
abbrev EvL (Γ : Slots) (R : List Res) (e : Expr) (R' : List Res) (ds : List PyData) : Prop := EvN X K E Γ R e (fun p : Addr => R' ++ [rL p ds]) fun p => sv (.ref p)
def TeJ (Γ : Slots) (R : List Res) (e : Expr) (b : Bool) : Prop :=
  ∃ t : TT, (∀ i, PT (X i) e t) ∧ ∀ S σ H (Q : Bool → Hp → Prop), SR K E Γ R S σ H → KontB K E Γ R σ S b Q → t σ H Q
def TwJ (Γ : Slots) (R : List Res) (e : Expr) (b : Bool) : Prop :=
  ∃ t : TT, (∀ i, PW (X i) e t) ∧ ∀ S σ H (Q : Bool → Hp → Prop), SR K E Γ R S σ H → KontB K E Γ R σ S b Q → t σ H Q
def ArJ (Γ : Slots) (R : List Res) (es : List Expr) (R' : List Res) (ss : List Sl) : Prop :=
  ∃ t : TA, (∀ i, PA (X i) es t) ∧ ∀ S σ H (Q : List V → Hp → Prop), SR K E Γ R S σ H → KontA K E Γ R' σ S ss Q → t σ H Q
end

section
variable {ι : Type} {X : ι → Cx} {K : PySem.W.Frag} {E : Ent} {Γ : Slots} {R R1 R2' R3 : List Res} {a b c e : Expr} {es : List Expr} {pos : Pos} {s s1 s2 s3 : Sl}
  {P : Program} {w : World} {mg : Str → Option Value} {base : Heap} {A : Around} {N : List Str}

/-! ### names and constants -/
theorem ev_var (k : Nat) {x : Str} (hN : ∀ i, (X i).N[k]? = some x := by exact fun _ => rfl) (hv : ∀ i, Vis (X i).env.scope x := by first | exact fun _ => Or.inl rfl | exact fun _ => Or.inr (Or.inl rfl) | exact fun _ => Or.inr (Or.inr rfl)) (h : Γ[k]? = some (some s) := by rfl) (hd : (x == ("__debug__" : Str)) = false := by decide) (hcd : (x == ("__classdict__" : Str)) = false := by decide) :
    EvJ X K E Γ R (.Name x pos) R s :=
  ⟨tVar k, fun i => pe_var (hN i) (hv i) hd hcd, fun S σ H Q q k' => let ⟨v, e, r⟩ := q.slot h; ⟨v, e, k' v S H (Same.refl _) q r⟩⟩
theorem ev_const {v : V} (h : ∀ i, PE (X i) e (tC v)) : EvJ X K E Γ R e R (sv v) := ⟨tC v, h, fun S σ H Q q k => k v S H (Same.refl _) q rfl⟩
theorem ev_int {n : Int} {j : Nat} : EvJ X K E Γ R (.Constant (.int n) j pos) R (sv (.int n)) := ev_const fun _ => pe_int
theorem ev_str {x : Str} {j : Nat} : EvJ X K E Γ R (.Constant (.str x) j pos) R (sv (.str x)) := ev_const fun _ => pe_str
theorem ev_bool {k : Bool} {j : Nat} : EvJ X K E Γ R (.Constant (.bool k) j pos) R (sv (.bl k)) := ev_const fun _ => pe_bl
theorem ev_none {j : Nat} : EvJ X K E Γ R (.Constant .none j pos) R (sv .non) := ev_const fun _ => pe_non
theorem ev_glob {x : Str} {v : V} {u : Value} (F : Fam X P w K mg base A N) (hm : mg x = some u) (r : RelV v u) (hg : ∀ i, Gl (X i) x := by exact fun _ => rfl) (hd : (x == ("__debug__" : Str)) = false := by decide) : EvJ X K E Γ R (.Name x pos) R (sv v) :=
  ev_const fun i => pe_glob (hg i) (by rw [F.fmg i]; exact hm) r hd
theorem ev_bltn {x : Str} {v : V} {u : Value} (F : Fam X P w K mg base A N) (hm : mg x = none) (hv : bootBuiltins x = some u) (r : RelV v u) (hg : ∀ i, Gl (X i) x := by exact fun _ => rfl) (hn : x ≠ "__name__" := by decide) (hd : (x == ("__debug__" : Str)) = false := by decide) :
    EvJ X K E Γ R (.Name x pos) R (sv v) := ev_const fun i => pe_bltn (hg i) (by rw [F.fmg i]; exact hm) hv r hn hd
theorem ev_is (h : EvJ X K E Γ R e R1 s1) (hs : ∀ S v, s1.r K S v → s2.r K S v) : EvJ X K E Γ R e R1 s2 :=
  let ⟨t, h1, h2⟩ := h; ⟨t, h1, fun S σ H Q q k => h2 S σ H Q q fun v S' H' e q' r => k v S' H' e q' (hs _ _ r)⟩
theorem ev_eq (h : EvJ X K E Γ R e R1 s1) (hs : s1 = s2) : EvJ X K E Γ R e R1 s2 := hs ▸ h

/-! ### operators -/
variable (X) (K) (E) in
/-- an operation on two values -/
def BinR (f : Value → Value → Sem Value) (R : List Res) (s1 s2 s3 : Sl) : Prop :=
  ∃ r : R2, (∀ i, OpR (X i) f r) ∧ ∀ Γ S σ H x y (Q : VK), SR K E Γ R S σ H → s1.r K S x → s2.r K S y → Kont K E Γ R σ S s3 Q → r x y H Q
variable (X) (K) (E) in
def BinRN {ν : Type} (f : Value → Value → Sem Value) (R : List Res) (s1 s2 : Sl) (R' : ν → List Res) (s3 : ν → Sl) : Prop :=
  ∃ r : R2, (∀ i, OpR (X i) f r) ∧ ∀ Γ S σ H x y (Q : VK), SR K E Γ R S σ H → s1.r K S x → s2.r K S y → (∀ n, Kont K E Γ (R' n) σ S (s3 n) Q) → r x y H Q
theorem ev_bin {op : Operator} (ha : EvJ X K E Γ R a R1 s1) (hb : EvJ X K E Γ R1 b R2' s2) (ho : BinR X K E (binaryOp op) R2' s1 s2 s3) : EvJ X K E Γ R (.BinOp a op b pos) R2' s3 := by
  obtain ⟨ta, a1, a2⟩ := ha
  obtain ⟨tb, b1, b2⟩ := hb
  obtain ⟨r, o1, o2⟩ := ho
  refine ⟨tOp r ta tb, fun i => pe_op (o1 i) (a1 i) (b1 i), fun S σ H Q q k => ?_⟩
  refine a2 S σ H _ q fun x S1 H1 e1 q1 r1 => b2 S1 σ H1 _ q1 fun y S2 H2 e2 q2 r2 => ?_
  exact o2 Γ S2 σ H2 x y Q q2 (s1.mono e2 r1) r2 fun v S3 H3 e3 q3 r3 => k v S3 H3 ((e1.trans e2).trans e3) q3 r3
theorem ev_binN {ν : Type} {R' : ν → List Res} {s3 : ν → Sl} {op : Operator} (ha : EvJ X K E Γ R a R1 s1) (hb : EvJ X K E Γ R1 b R2' s2) (ho : BinRN X K E (binaryOp op) R2' s1 s2 R' s3) : EvN X K E Γ R (.BinOp a op b pos) R' s3 := by
  obtain ⟨ta, a1, a2⟩ := ha
  obtain ⟨tb, b1, b2⟩ := hb
  obtain ⟨r, o1, o2⟩ := ho
  refine ⟨tOp r ta tb, fun i => pe_op (o1 i) (a1 i) (b1 i), fun S σ H Q q k => ?_⟩
  refine a2 S σ H _ q fun x S1 H1 e1 q1 r1 => b2 S1 σ H1 _ q1 fun y S2 H2 e2 q2 r2 => ?_
  exact o2 Γ S2 σ H2 x y Q q2 (s1.mono e2 r1) r2 fun n v S3 H3 e3 q3 r3 => k n v S3 H3 ((e1.trans e2).trans e3) q3 r3
/-- a comparison as a value, as a test -/
theorem ev_cmp {op : CmpOp} (ha : EvJ X K E Γ R a R1 s1) (hb : EvJ X K E Γ R1 b R2' s2) (ho : BinR X K E (compareOp op) R2' s1 s2 s3) (hm : behindInMarks op b = false := by first | exact nomark _ | with_unfolding_all rfl) : EvJ X K E Γ R (.Compare a [op] [b] pos) R2' s3 := by
  obtain ⟨ta, a1, a2⟩ := ha
  obtain ⟨tb, b1, b2⟩ := hb
  obtain ⟨r, o1, o2⟩ := ho
  refine ⟨tOp r ta tb, fun i => pe_cmpR (o1 i) (a1 i) (b1 i) hm, fun S σ H Q q k => ?_⟩
  refine a2 S σ H _ q fun x S1 H1 e1 q1 r1 => b2 S1 σ H1 _ q1 fun y S2 H2 e2 q2 r2 => ?_
  exact o2 Γ S2 σ H2 x y Q q2 (s1.mono e2 r1) r2 fun v S3 H3 e3 q3 r3 => k v S3 H3 ((e1.trans e2).trans e3) q3 r3
theorem te_cmp {op : CmpOp} {k : Bool} (ha : EvJ X K E Γ R a R s1) (hb : EvJ X K E Γ R b R s2) (ho : BinR X K E (compareOp op) R s1 s2 (sv (.bl k))) (hm : behindInMarks op b = false := by first | exact nomark _ | with_unfolding_all rfl) : TeJ X K E Γ R (.Compare a [op] [b] pos) k := by
  obtain ⟨ta, a1, a2⟩ := ha
  obtain ⟨tb, b1, b2⟩ := hb
  obtain ⟨r, o1, o2⟩ := ho
  refine ⟨tTest (tOp r ta tb), fun i => pt_cmpR (o1 i) (a1 i) (b1 i) hm, fun S σ H Q q k' => ?_⟩
  refine a2 S σ H _ q fun x S1 H1 e1 q1 r1 => b2 S1 σ H1 _ q1 fun y S2 H2 e2 q2 r2 => ?_
  exact o2 Γ S2 σ H2 x y _ q2 (s1.mono e2 r1) r2 fun v S3 H3 e3 q3 r3 => ⟨k, r3, k' S3 H3 ((e1.trans e2).trans e3) q3⟩
/-- a bool's value as a test (he: fun _ _ => rfl) -/
theorem te_val {k : Bool} (h : EvJ X K E Γ R e R (sv (.bl k))) (he : ∀ i whole, isTrue e (X i).env whole = (do let v ← whole; standAt e.pos; holding [v] (truthy v)) := by exact fun _ _ => rfl) : TeJ X K E Γ R e k := by
  obtain ⟨t, h1, h2⟩ := h
  exact ⟨tB t, fun i => pt_val (h1 i) (he i), fun S σ H Q q k' => h2 S σ H _ q fun v S1 H1 e1 q1 r1 => ⟨k, r1, k' S1 H1 e1 q1⟩⟩
theorem te_not {k : Bool} (h : TeJ X K E Γ R e k) : TeJ X K E Γ R (.UnaryOp .Not e pos) (!k) := by
  obtain ⟨t, h1, h2⟩ := h
  exact ⟨tNot t, fun i => pt_not (h1 i), fun S σ H Q q k' => h2 S σ H _ q fun S1 H1 e1 q1 => k' S1 H1 e1 q1⟩
theorem tw_and1 {k : Bool} (h : TeJ X K E Γ R a k) : TwJ X K E Γ R (.BoolOp .And [a] pos) k := let ⟨t, h1, h2⟩ := h; ⟨t, fun i => pw_and1 (h1 i), h2⟩
theorem tw_or1 {k : Bool} (h : TeJ X K E Γ R a k) : TwJ X K E Γ R (.BoolOp .Or [a] pos) k := let ⟨t, h1, h2⟩ := h; ⟨t, fun i => pw_or1 (h1 i), h2⟩
theorem pw_never : PW (X i₀) e (fun _ _ _ => False) := ⟨fun _ _ _ _ _ _ _ h => h.elim⟩
theorem pt_never {Y : Cx} : PT Y e (fun _ _ _ => False) := ⟨fun _ _ _ _ _ _ h => h.elim⟩
theorem pe_never {Y : Cx} : PE Y e (fun _ _ _ => False) := ⟨fun _ _ _ _ _ _ h => h.elim⟩
theorem tw_and {k j : Bool} (ha : TeJ X K E Γ R a k) (hb : k = true → TwJ X K E Γ R (.BoolOp .And (b :: es) pos) j) : TwJ X K E Γ R (.BoolOp .And (a :: b :: es) pos) (k && j) := by
  obtain ⟨ta, a1, a2⟩ := ha
  cases k with
  | true =>
    obtain ⟨tb, b1, b2⟩ := hb rfl
    exact ⟨tAnd ta tb, fun i => pw_and (a1 i) (b1 i), fun S σ H Q q k' => a2 S σ H _ q fun S1 H1 e1 q1 => b2 S1 σ H1 Q q1 fun S2 H2 e2 q2 => k' S2 H2 (e1.trans e2) q2⟩
  | false => exact ⟨tAnd ta _, fun i => pw_and (a1 i) (pw_never (i₀ := i)), fun S σ H Q q k' => a2 S σ H _ q fun S1 H1 e1 q1 => k' S1 H1 e1 q1⟩
theorem tw_or {k j : Bool} (ha : TeJ X K E Γ R a k) (hb : k = false → TwJ X K E Γ R (.BoolOp .Or (b :: es) pos) j) : TwJ X K E Γ R (.BoolOp .Or (a :: b :: es) pos) (k || j) := by
  obtain ⟨ta, a1, a2⟩ := ha
  cases k with
  | false =>
    obtain ⟨tb, b1, b2⟩ := hb rfl
    exact ⟨tOr ta tb, fun i => pw_or (a1 i) (b1 i), fun S σ H Q q k' => a2 S σ H _ q fun S1 H1 e1 q1 => b2 S1 σ H1 Q q1 fun S2 H2 e2 q2 => k' S2 H2 (e1.trans e2) q2⟩
  | true => exact ⟨tOr ta _, fun i => pw_or (a1 i) (pw_never (i₀ := i)), fun S σ H Q q k' => a2 S σ H _ q fun S1 H1 e1 q1 => k' S1 H1 e1 q1⟩
theorem te_bop {k : Bool} (h : TwJ X K E Γ R e k) : TeJ X K E Γ R e k := let ⟨t, h1, h2⟩ := h; ⟨t, fun i => (h1 i).pt, h2⟩
/-- and, or, not as values, of bools -/
theorem ev_one {op : BoolOp} (h : EvJ X K E Γ R a R1 s) : EvJ X K E Γ R (.BoolOp op [a] pos) R1 s := let ⟨t, h1, h2⟩ := h; ⟨t, fun i => pe_one (h1 i), h2⟩
theorem ev_and {k j : Bool} (ha : EvJ X K E Γ R a R (sv (.bl k))) (hb : k = true → EvJ X K E Γ R (.BoolOp .And (b :: es) pos) R (sv (.bl j))) : EvJ X K E Γ R (.BoolOp .And (a :: b :: es) pos) R (sv (.bl (k && j))) := by
  obtain ⟨ta, a1, a2⟩ := ha
  cases k with
  | true =>
    obtain ⟨tb, b1, b2⟩ := hb rfl
    exact ⟨tAndV ta tb, fun i => pe_and (a1 i) (b1 i), fun S σ H Q q k' => a2 S σ H _ q fun v S1 H1 e1 q1 r1 => ⟨true, r1, b2 S1 σ H1 Q q1 fun v S2 H2 e2 q2 r2 => k' v S2 H2 (e1.trans e2) q2 r2⟩⟩
  | false => exact ⟨tAndV ta _, fun i => pe_and (a1 i) pe_never, fun S σ H Q q k' => a2 S σ H _ q fun v S1 H1 e1 q1 r1 => ⟨false, r1, k' _ S1 H1 e1 q1 rfl⟩⟩
theorem ev_or {k j : Bool} (ha : EvJ X K E Γ R a R (sv (.bl k))) (hb : k = false → EvJ X K E Γ R (.BoolOp .Or (b :: es) pos) R (sv (.bl j))) : EvJ X K E Γ R (.BoolOp .Or (a :: b :: es) pos) R (sv (.bl (k || j))) := by
  obtain ⟨ta, a1, a2⟩ := ha
  cases k with
  | false =>
    obtain ⟨tb, b1, b2⟩ := hb rfl
    exact ⟨tOrV ta tb, fun i => pe_or (a1 i) (b1 i), fun S σ H Q q k' => a2 S σ H _ q fun v S1 H1 e1 q1 r1 => ⟨false, r1, b2 S1 σ H1 Q q1 fun v S2 H2 e2 q2 r2 => k' v S2 H2 (e1.trans e2) q2 r2⟩⟩
  | true => exact ⟨tOrV ta _, fun i => pe_or (a1 i) pe_never, fun S σ H Q q k' => a2 S σ H _ q fun v S1 H1 e1 q1 r1 => ⟨true, r1, k' _ S1 H1 e1 q1 rfl⟩⟩
theorem ev_not {k : Bool} (h : EvJ X K E Γ R e R1 (sv (.bl k))) : EvJ X K E Γ R (.UnaryOp .Not e pos) R1 (sv (.bl (!k))) := by
  obtain ⟨t, h1, h2⟩ := h
  exact ⟨tNotV t, fun i => pe_not (h1 i), fun S σ H Q q k' => h2 S σ H _ q fun v S1 H1 e1 q1 r1 => ⟨k, r1, k' _ S1 H1 e1 q1 rfl⟩⟩
/-- a if c else b: sif, or the one of both (ev_ifT, ev_ifF) -/
theorem ev_ifExp {k : Bool} (hc : TeJ X K E Γ R c k) (ha : k = true → EvJ X K E Γ R a R1 s) (hb : k = false → EvJ X K E Γ R b R1 s) : EvJ X K E Γ R (.IfExp c a b pos) R1 s := by
  obtain ⟨tc, c1, c2⟩ := hc
  cases k with
  | true =>
    obtain ⟨ta, a1, a2⟩ := ha rfl
    exact ⟨tIf tc ta _, fun i => pe_ifExp (c1 i) (a1 i) pe_never, fun S σ H Q q k' => c2 S σ H _ q fun S1 H1 e1 q1 => iteT (a2 S1 σ H1 Q q1 fun v S2 H2 e2 q2 r2 => k' v S2 H2 (e1.trans e2) q2 r2)⟩
  | false =>
    obtain ⟨tb, b1, b2⟩ := hb rfl
    exact ⟨tIf tc _ tb, fun i => pe_ifExp (c1 i) pe_never (b1 i), fun S σ H Q q k' => c2 S σ H _ q fun S1 H1 e1 q1 => iteF (b2 S1 σ H1 Q q1 fun v S2 H2 e2 q2 r2 => k' v S2 H2 (e1.trans e2) q2 r2)⟩
/-- lists of arguments -/
theorem ar_nil : ArJ X K E Γ R [] R [] := ⟨tNil, fun _ => pa_nil, fun S σ H Q q k => k [] S H (Same.refl _) q .nil⟩
theorem ar_cons {ss : List Sl} (h : EvJ X K E Γ R e R1 s) (hr : ArJ X K E Γ R1 es R2' ss) (hs : ∀ i, starEach (e :: es) (X i).env = (false, eval e (X i).env) :: starEach es (X i).env := by exact fun _ => rfl) : ArJ X K E Γ R (e :: es) R2' (s :: ss) := by
  obtain ⟨t, h1, h2⟩ := h
  obtain ⟨u, g1, g2⟩ := hr
  exact ⟨tCons t u, fun i => pa_cons (h1 i) (g1 i) (hs i), fun S σ H Q q k => h2 S σ H _ q fun v S1 H1 e1 q1 r1 => g2 S1 σ H1 _ q1 fun vs S2 H2 e2 q2 r2 => k (v :: vs) S2 H2 (e1.trans e2) q2 (.cons (s.mono e2 r1) r2)⟩
/-- a tuple of them: lasting -/
theorem ev_tup {ss : List Sl} {k1 : Nat} (h : ArJ X K E Γ R es R1 ss) (hz : ss.length ≤ 1000 := by exact Nat.le_of_ble_eq_true rfl) : EvJ X K E Γ R (.Tuple es k1 pos) R1 (stup ss) := by
  obtain ⟨t, h1, h2⟩ := h
  refine ⟨tTup t, fun i => pe_tup (h1 i), fun S σ H Q q k => h2 S σ H _ q fun vs S1 H1 e1 q1 r1 => ⟨Nat.le_of_lt (small1000 (by rw [← r1.len]; exact hz)), fun p hp => ?_⟩⟩
  refine k (.ref p) (upd S1 p (.tup vs)) _ (e1.trans (same_new (q1.free hp))) (q1.grow hp) ⟨p, vs, rfl, SqT.of upd_same, r1.imp fun s v h => s.mono (same_new (q1.free hp)) h⟩
/-- all of a list of descriptions are data -/
inductive AreD : List Sl → List PyData → Prop
  | nil : AreD [] []
  | cons {s : Sl} {d : PyData} {ss : List Sl} {ds : List PyData} : (∀ K S v, s.r K S v → Da K S v d) → AreD ss ds → AreD (s :: ss) (d :: ds)
theorem AreD.all {S : Hp} : ∀ {ss : List Sl} {ds : List PyData} {vs : List V}, AreD ss ds → All2 (fun (s : Sl) v => s.r K S v) ss vs → DaAll K S vs ds
  | _, _, _, .nil, .nil => .nil
  | _, _, _, .cons h r, .cons g t => .cons (h _ _ _ g) (r.all t)
theorem ad_int {i : Int} : ∀ K S v, (sv (.int i)).r K S v → Da K S v (.int i) := fun _ _ v h => by cases (show v = .int i from h); exact .int i
theorem ad_str {i : Str} : ∀ K S v, (sv (.str i)).r K S v → Da K S v (.str i) := fun _ _ v h => by cases (show v = .str i from h); exact .str i
theorem ad_bl {i : Bool} : ∀ K S v, (sv (.bl i)).r K S v → Da K S v (.bool i) := fun _ _ v h => by cases (show v = .bl i from h); exact .bl i
theorem ad_non : ∀ K S v, (sv .non).r K S v → Da K S v .none := fun _ _ v h => by cases (show v = .non from h); exact .non
theorem ad_d {d : PyData} : ∀ K S v, (sd d).r K S v → Da K S v d := fun _ _ v h => h
theorem ad_l {d : PyData} : ∀ K S v, (sl d).r K S v → Da K S v d := fun _ _ v h => sl_da.mp h
theorem ad_tup {ss : List Sl} {ds : List PyData} (h : AreD ss ds) : ∀ K S v, (stup ss).r K S v → Da K S v (.tuple ds) := fun K S v ⟨p, vs, e, h1, h2⟩ => by
  subst e
  exact .tup h1 (h.all h2)
theorem ev_d {d : PyData} (h : EvJ X K E Γ R e R1 s) (hd : ∀ K S v, s.r K S v → Da K S v d) : EvJ X K E Γ R e R1 (sd d) := ev_is h fun S v r => hd K S v r
/-- a written list -/
theorem el_lst {ss : List Sl} {ds : List PyData} (h : ArJ X K E Γ R es R1 ss) (hd : AreD ss ds) (hz : ss.length ≤ 1000 := by exact Nat.le_of_ble_eq_true rfl) : EvL X K E Γ R (.List es pos) R1 ds := by
  obtain ⟨t, h1, h2⟩ := h
  refine ⟨tLst t, fun i => pe_lst (h1 i), fun S σ H Q q k => h2 S σ H _ q fun vs S1 H1 e1 q1 r1 => ⟨Nat.le_of_lt (small1000 (by rw [← r1.len]; exact hz)), fun p hp => ?_⟩⟩
  exact k p (.ref p) S1 _ e1 (q1.mine hp ⟨vs, rfl, hd.all r1⟩) rfl
/-- one's own list becomes lasting -/
theorem SR.freeze {S H : Hp} {σ : L2.St} {p : Addr} {ds : List PyData} (q : SR K E Γ (R ++ [rL p ds]) S σ H) : ∃ S', Same S S' ∧ SR K E Γ R S' σ H ∧ Da K S' (.ref p) (.list ds) := by
  obtain ⟨Os, ⟨h1, h2⟩, h3⟩ := q.own
  obtain ⟨Os', O, rfl, g1, gr, gs, gn⟩ : ∃ Os' O, Os = Os' ++ [O] ∧ All2 (fun (ρ : Res) O => ρ.r K S O ∧ Same O H ∧ ∀ a, O a ≠ none → S a = none) R Os' ∧ (rL p ds).r K S O ∧ Same O H ∧ ∀ a, O a ≠ none → S a = none := by
    clear h2 h3 q
    induction R generalizing Os with
    | nil =>
      cases h1 with
      | cons a b =>
        cases b
        exact ⟨[], _, rfl, .nil, a.1, a.2.1, a.2.2⟩
    | cons r R ih =>
      cases h1 with
      | cons a b =>
        obtain ⟨Os', O, e, g⟩ := ih _ b
        subst e
        exact ⟨_ :: Os', O, rfl, .cons a g.1, g.2⟩
  obtain ⟨vs, rfl, hv⟩ := gr
  have hp : H p = some (.lst vs) := gs p _ hOne_same
  have sp : S p = none := gn p (by rw [hOne_same]; exact fun z => nomatch z)
  obtain ⟨d1, _, d3⟩ := List.pairwise_append.mp h2
  refine ⟨upd S p (.lst vs), same_new sp, ⟨fun a u e => ?_, q.ext.trans (same_new sp), q.fr, fun a ha => ?_, ⟨Os', ⟨?_, d1⟩, fun O hO => h3 O (List.mem_append_left _ hO)⟩, q.slots.imp fun s o h1 s' e => let ⟨v, e2, e3⟩ := h1 s' e; ⟨v, e2, s'.mono (same_new sp) e3⟩⟩, .lst upd_same (daAll_same (same_new sp) hv)⟩
  · by_cases ha : a = p
    · subst ha; rw [upd_same] at e; cases e; exact hp
    · rw [upd_ne ha] at e; exact q.sub a u e
  · by_cases e : a = p
    · subst e
      rcases h3 (hOne a (.lst vs)) (List.mem_append_right _ (List.mem_singleton.mpr rfl)) a (by rw [hOne_same]; exact fun z => nomatch z) with z | z
      · exact .inr (.inr z)
      · exact .inr (.inl z)
    · rw [upd_ne e] at ha
      exact q.new a ha
  · have apart : ∀ O ∈ Os', O p = none := fun O hO => by
      cases e : O p with
      | none => rfl
      | some u =>
        have := d3 O hO (hOne p (.lst vs)) (List.mem_singleton.mpr rfl) p (by rw [e]; exact fun z => nomatch z)
        rw [hOne_same] at this
        cases this
    clear h1 h2 h3 q d1 d3
    induction g1 with
    | nil => exact .nil
    | cons a b ih =>
      refine .cons ⟨Res.mono _ (same_new sp) a.1, a.2.1, fun x hx => ?_⟩ (ih fun O hO => apart O (List.mem_cons_of_mem _ hO))
      have ne : x ≠ p := fun e => hx (by rw [e]; exact apart _ List.mem_cons_self)
      rw [upd_ne ne]
      exact a.2.2 x hx
theorem frz {ds : List PyData} (h : EvL X K E Γ R e R1 ds) : EvJ X K E Γ R e R1 (sd (.list ds)) := by
  obtain ⟨t, h1, h2⟩ := h
  refine ⟨t, h1, fun S σ H Q q k => h2 S σ H Q q fun p v S1 H1 e1 q1 r1 => ?_⟩
  cases (show v = .ref p from r1)
  obtain ⟨S2, e2, q2, hd⟩ := q1.freeze
  exact k _ S2 H1 (e1.trans e2) q2 hd
end
end SL

/-! operators, subscripts, built-ins -/
namespace SL
open PySem PySem.Spec PyProof.Rows L2
section
variable {ι : Type} {X : ι → Cx} {K : PySem.W.Frag} {E : Ent} {Γ : Slots} {R R1 R2' R3 : List Res} {a b c e : Expr} {es : List Expr} {pos : Pos} {s s1 s2 s3 : Sl}
  {P : Program} {w : World} {mg : Str → Option Value} {base : Heap} {A : Around} {N : List Str}
theorem br_pure {f : Value → Value → Sem Value} {v1 v2 v3 : V} {r : R2} (h : ∀ i, OpR (X i) f r) (hr : ∀ H (Q : VK), Q v3 H → r v1 v2 H Q) : BinR X K E f R (sv v1) (sv v2) (sv v3) :=
  ⟨r, h, fun Γ S σ H x y Q q r1 r2 k => by
    cases (show x = v1 from r1)
    cases (show y = v2 from r2)
    exact hr H Q (k v3 S H (Same.refl _) q rfl)⟩
variable {i j : Int} {x y : Str}
theorem br_add : BinR X K E (binaryOp .Add) R (sv (.int i)) (sv (.int j)) (sv (.int (i + j))) := br_pure (fun _ => op_add) fun H Q q => ⟨i, j, rfl, rfl, q⟩
theorem br_sub : BinR X K E (binaryOp .Sub) R (sv (.int i)) (sv (.int j)) (sv (.int (i - j))) := br_pure (fun _ => op_sub) fun H Q q => ⟨i, j, rfl, rfl, q⟩
theorem br_mul (h : CMul i j) : BinR X K E (binaryOp .Mult) R (sv (.int i)) (sv (.int j)) (sv (.int (i * j))) := br_pure (fun _ => op_mul) fun H Q q => ⟨i, j, rfl, rfl, h, q⟩
theorem br_mulW (h : CMulW i j) : BinR X K E (binaryOp .Mult) R (sv (.int i)) (sv (.int j)) (sv (.int (i * j))) := br_pure (fun _ => op_mulW) fun H Q q => ⟨i, j, rfl, rfl, h, q⟩
theorem br_fdiv (h : CDiv i j) : BinR X K E (binaryOp .FloorDiv) R (sv (.int i)) (sv (.int j)) (sv (.int (i / j))) := br_pure (fun _ => op_fdiv) fun H Q q => ⟨i, j, rfl, rfl, h, q⟩
theorem br_fdivW (h : CDivW i j) : BinR X K E (binaryOp .FloorDiv) R (sv (.int i)) (sv (.int j)) (sv (.int (i / j))) := br_pure (fun _ => op_fdivW) fun H Q q => ⟨i, j, rfl, rfl, h, q⟩
theorem br_mod (h : 0 < j) : BinR X K E (binaryOp .Mod) R (sv (.int i)) (sv (.int j)) (sv (.int (i % j))) := br_pure (fun _ => op_mod) fun H Q q => ⟨i, j, rfl, rfl, h, q⟩
theorem br_pow (h : CPow i j) : BinR X K E (binaryOp .Pow) R (sv (.int i)) (sv (.int j)) (sv (.int (i ^ j.toNat))) := br_pure (fun _ => op_pow) fun H Q q => ⟨i, j, rfl, rfl, h, q⟩
theorem br_shr (h : 0 ≤ j) : BinR X K E (binaryOp .RShift) R (sv (.int i)) (sv (.int j)) (sv (.int (i / 2 ^ j.toNat))) := br_pure (fun _ => op_shr) fun H Q q => ⟨i, j, rfl, rfl, h, q⟩
theorem br_adds (h : x.length + y.length ≤ sizeLine) : BinR X K E (binaryOp .Add) R (sv (.str x)) (sv (.str y)) (sv (.str (x ++ y))) := br_pure (fun _ => op_add_str) fun H Q q => ⟨x, y, rfl, rfl, h, q⟩
theorem br_lt : BinR X K E (compareOp .Lt) R (sv (.int i)) (sv (.int j)) (sv (.bl (decide (i < j)))) := br_pure (fun _ => op_lt) fun H Q q => ⟨i, j, rfl, rfl, q⟩
theorem br_le : BinR X K E (compareOp .LtE) R (sv (.int i)) (sv (.int j)) (sv (.bl (decide (i ≤ j)))) := br_pure (fun _ => op_le) fun H Q q => ⟨i, j, rfl, rfl, q⟩
theorem br_gt : BinR X K E (compareOp .Gt) R (sv (.int i)) (sv (.int j)) (sv (.bl (decide (j < i)))) := br_pure (fun _ => op_gt) fun H Q q => ⟨i, j, rfl, rfl, q⟩
theorem br_ge : BinR X K E (compareOp .GtE) R (sv (.int i)) (sv (.int j)) (sv (.bl (decide (j ≤ i)))) := br_pure (fun _ => op_ge) fun H Q q => ⟨i, j, rfl, rfl, q⟩
theorem dec_inj {α : Type} {f : α → V} (hf : ∀ a b, f a = f b → a = b) {a b : α} [Decidable (a = b)] : decide (f a = f b) = decide (a = b) := decide_eq_decide.mpr ⟨hf a b, fun e => congrArg f e⟩
theorem br_eqI : BinR X K E (compareOp .Eq) R (sv (.int i)) (sv (.int j)) (sv (.bl (decide (i = j)))) := br_pure (fun _ => op_eq) fun H Q q => ⟨rfl, by rw [dec_inj (f := V.int) fun _ _ h => V.int.inj h]; exact q⟩
theorem br_neI : BinR X K E (compareOp .NotEq) R (sv (.int i)) (sv (.int j)) (sv (.bl (!decide (i = j)))) := br_pure (fun _ => op_ne) fun H Q q => ⟨rfl, by rw [dec_inj (f := V.int) fun _ _ h => V.int.inj h]; exact q⟩
theorem br_eqS : BinR X K E (compareOp .Eq) R (sv (.str x)) (sv (.str y)) (sv (.bl (decide (x = y)))) := br_pure (fun _ => op_eq) fun H Q q => ⟨rfl, by rw [dec_inj (f := V.str) fun _ _ h => V.str.inj h]; exact q⟩
theorem br_neS : BinR X K E (compareOp .NotEq) R (sv (.str x)) (sv (.str y)) (sv (.bl (!decide (x = y)))) := br_pure (fun _ => op_ne) fun H Q q => ⟨rfl, by rw [dec_inj (f := V.str) fun _ _ h => V.str.inj h]; exact q⟩
theorem br_eqB {k l : Bool} : BinR X K E (compareOp .Eq) R (sv (.bl k)) (sv (.bl l)) (sv (.bl (decide (k = l)))) := br_pure (fun _ => op_eq) fun H Q q => ⟨rfl, by rw [dec_inj (f := V.bl) fun _ _ h => V.bl.inj h]; exact q⟩
theorem br_neB {k l : Bool} : BinR X K E (compareOp .NotEq) R (sv (.bl k)) (sv (.bl l)) (sv (.bl (!decide (k = l)))) := br_pure (fun _ => op_ne) fun H Q q => ⟨rfl, by rw [dec_inj (f := V.bl) fun _ _ h => V.bl.inj h]; exact q⟩
/-- scalars of two kinds (None beside an int, a text ..) -/
theorem br_eqV {v u : V} (h : scal v u = true) : BinR X K E (compareOp .Eq) R (sv v) (sv u) (sv (.bl (decide (v = u)))) := br_pure (fun _ => op_eq) fun H Q q => ⟨h, q⟩
theorem br_neV {v u : V} (h : scal v u = true) : BinR X K E (compareOp .NotEq) R (sv v) (sv u) (sv (.bl (!decide (v = u)))) := br_pure (fun _ => op_ne) fun H Q q => ⟨h, q⟩
theorem br_isN {v : V} : BinR X K E (compareOp .Is) R (sv v) (sv .non) (sv (.bl (decide (v = .non)))) := br_pure (fun _ => op_isN) fun H Q q => ⟨rfl, q⟩
theorem br_notN {v : V} : BinR X K E (compareOp .IsNot) R (sv v) (sv .non) (sv (.bl (!decide (v = .non)))) := br_pure (fun _ => op_notN) fun H Q q => ⟨rfl, q⟩
/-- data is None or not, by what it is -/
def nonD : PyData → Bool
  | .none => true
  | _ => false
theorem da_non {S : Hp} {v : V} {d : PyData} (h : Da K S v d) : decide (v = .non) = nonD d := by
  cases h <;> rfl
theorem br_isND {d : PyData} : BinR X K E (compareOp .Is) R (sd d) (sv .non) (sv (.bl (nonD d))) :=
  ⟨_, fun _ => op_isN, fun Γ S σ H x y Q q r1 r2 k => by
    cases (show y = .non from r2)
    exact ⟨rfl, k _ S H (Same.refl _) q (by rw [da_non r1]; rfl)⟩⟩
theorem br_notND {d : PyData} : BinR X K E (compareOp .IsNot) R (sd d) (sv .non) (sv (.bl (!nonD d))) :=
  ⟨_, fun _ => op_notN, fun Γ S σ H x y Q q r1 r2 k => by
    cases (show y = .non from r2)
    exact ⟨rfl, k _ S H (Same.refl _) q (by rw [da_non r1]; rfl)⟩⟩
/-- one sign in a text -/
theorem br_inS {n : Nat} : BinR X K E (compareOp .In) R (sv (.str ⟨#[n]⟩)) (sv (.str y)) (sv (.bl (decide (n ∈ y.cps.toList)))) := br_pure (fun _ => op_in_sign) fun H Q q => ⟨n, y, rfl, rfl, q⟩
theorem br_notInS {n : Nat} : BinR X K E (compareOp .NotIn) R (sv (.str ⟨#[n]⟩)) (sv (.str y)) (sv (.bl (!decide (n ∈ y.cps.toList)))) := br_pure (fun _ => op_notIn_sign) fun H Q q => ⟨n, y, rfl, rfl, q⟩

/-! ### lists that are read -/
/-- what s says is a list of the data ds -/
def LV (K : PySem.W.Frag) (R : List Res) (s : Sl) (ds : List PyData) : Prop := ∀ (E : Ent) (Γ : Slots) (S : Hp) (σ : L2.St) (H : Hp) (v : V), SR K E Γ R S σ H → s.r K S v → ∃ p vs, v = .ref p ∧ H p = some (.lst vs) ∧ DaAll K S vs ds
theorem lv_d {ds : List PyData} : LV K R (sd (.list ds)) ds := fun E Γ S σ H v q r => by
  cases r with
  | lst h t => exact ⟨_, _, rfl, q.sub _ _ h, t⟩
theorem SR.res (k : Nat) {ρ : Res} {S H : Hp} {σ : L2.St} (h : R[k]? = some ρ) (q : SR K E Γ R S σ H) : ∃ O, ρ.r K S O ∧ Same O H := by
  obtain ⟨Os, ⟨h1, _⟩, _⟩ := q.own
  obtain ⟨O, _, g1, g2, _⟩ := h1.get h
  exact ⟨O, g1, g2⟩
theorem lv_o (k : Nat) {p : Addr} {ds : List PyData} (h : R[k]? = some (rL p ds)) : LV K R (sv (.ref p)) ds := fun E Γ S σ H v q r => by
  cases (show v = .ref p from r)
  obtain ⟨O, ⟨vs, e, h1⟩, h2⟩ := q.res k h
  subst e
  exact ⟨p, vs, rfl, h2 p _ hOne_same, h1⟩
/-- a tuple -/
def TV (K : PySem.W.Frag) (R : List Res) (s : Sl) (ds : List PyData) : Prop := ∀ (E : Ent) (Γ : Slots) (S : Hp) (σ : L2.St) (H : Hp) (v : V), SR K E Γ R S σ H → s.r K S v → ∃ p vs, v = .ref p ∧ SqT K S p vs ∧ DaAll K S vs ds
theorem tv_d {ds : List PyData} : TV K R (sd (.tuple ds)) ds := fun E Γ S σ H v q r => by
  cases r with
  | tup h t => exact ⟨_, _, rfl, h, t⟩
theorem tv_s {ss : List Sl} {ds : List PyData} (h : AreD ss ds) : TV K R (stup ss) ds := fun E Γ S σ H v q ⟨p, vs, e, h1, h2⟩ => ⟨p, vs, e, h1, h.all h2⟩
/-- the script: a list of ints from outside -/
def sscr (ns : List Int) : Sl := ⟨fun K H v => ∃ p, v = .ref p ∧ SqL K H p (ns.map V.int), fun e ⟨p, h1, h2⟩ => ⟨p, h1, same_l e h2⟩⟩

theorem atI_len {α β : Type} {xs : List α} {ys : List β} {n : Int} {y : β} (hl : xs.length = ys.length) (h : atI ys n = some y) : ∃ (m : Nat) (x : α), ys[m]? = some y ∧ xs[m]? = some x ∧ atI xs n = some x := by
  unfold atI at h ⊢
  rw [hl]
  cases e : ixN ys.length n with
  | none => rw [e] at h; cases h
  | some m =>
    rw [e] at h
    have h' : ys[m]? = some y := h
    have hm := (List.getElem?_eq_some_iff.mp h').1
    exact ⟨m, xs[m]'(by omega), h', List.getElem?_eq_getElem (by omega), List.getElem?_eq_getElem (by omega)⟩
variable (X) (K) (E) in
/-- o[i] -/
def IxJ (R : List Res) (s1 s2 s3 : Sl) : Prop := ∃ r : R2, (∀ i, IxR (X i) r) ∧ ∀ Γ S σ H x y (Q : VK), SR K E Γ R S σ H → s1.r K S x → s2.r K S y → Kont K E Γ R σ S s3 Q → r x y H Q
theorem ev_ix (ha : EvJ X K E Γ R a R1 s1) (hb : EvJ X K E Γ R1 b R2' s2) (ho : IxJ X K E R2' s1 s2 s3) (hp : PlainIx b := by exact fun _ _ => rfl) : EvJ X K E Γ R (.Subscript a b pos) R2' s3 := by
  obtain ⟨ta, a1, a2⟩ := ha
  obtain ⟨tb, b1, b2⟩ := hb
  obtain ⟨r, o1, o2⟩ := ho
  refine ⟨tOp r ta tb, fun i => pe_ix (o1 i) (a1 i) (b1 i) hp, fun S σ H Q q k => ?_⟩
  refine a2 S σ H _ q fun x S1 H1 e1 q1 r1 => b2 S1 σ H1 _ q1 fun y S2 H2 e2 q2 r2 => ?_
  exact o2 Γ S2 σ H2 x y Q q2 (s1.mono e2 r1) r2 fun v S3 H3 e3 q3 r3 => k v S3 H3 ((e1.trans e2).trans e3) q3 r3
theorem ix_lst (F : Fam X P w K mg base A N) {ds : List PyData} {d : PyData} (h : LV K R s1 ds) (hi : atI ds i = some d) : IxJ X K E R s1 (sv (.int i)) (sl d) :=
  ⟨rIxL K, fun n => by rw [← F.fK n]; exact ix_list, fun Γ S σ H x y Q q r1 r2 k => by
    cases (show y = .int i from r2)
    obtain ⟨p, vs, rfl, h1, h2⟩ := h E Γ S σ H x q r1
    obtain ⟨m, v, e1, e2, e3⟩ := atI_len (daAll_len h2) hi
    obtain ⟨d', e4, h4⟩ := daAll_get h2 e2
    rw [e1] at e4
    cases e4
    exact ⟨p, vs, i, v, rfl, rfl, SqL.of h1, e3, k v S H (Same.refl _) q (sl_da.mpr h4)⟩⟩
theorem ix_tpl (F : Fam X P w K mg base A N) {ds : List PyData} {d : PyData} (h : TV K R s1 ds) (hi : atI ds i = some d) : IxJ X K E R s1 (sv (.int i)) (sl d) :=
  ⟨rIxT K, fun n => by rw [← F.fK n]; exact ix_tup, fun Γ S σ H x y Q q r1 r2 k => by
    cases (show y = .int i from r2)
    obtain ⟨p, vs, rfl, h1, h2⟩ := h E Γ S σ H x q r1
    obtain ⟨m, v, e1, e2, e3⟩ := atI_len (daAll_len h2) hi
    obtain ⟨d', e4, h4⟩ := daAll_get h2 e2
    rw [e1] at e4
    cases e4
    exact ⟨p, vs, i, v, rfl, rfl, same_t q.sub h1, e3, k v S H (Same.refl _) q (sl_da.mpr h4)⟩⟩
theorem ix_stup (F : Fam X P w K mg base A N) {ss : List Sl} (hi : atI ss i = some s) : IxJ X K E R (stup ss) (sv (.int i)) s :=
  ⟨rIxT K, fun n => by rw [← F.fK n]; exact ix_tup, fun Γ S σ H x y Q q r1 r2 k => by
    cases (show y = .int i from r2)
    obtain ⟨p, vs, rfl, h1, h2⟩ := r1
    obtain ⟨m, v, e1, e2, e3⟩ := atI_len h2.len.symm hi
    obtain ⟨v', e4, h4⟩ := h2.get e1
    rw [e2] at e4
    cases e4
    exact ⟨p, vs, i, v, rfl, rfl, same_t q.sub h1, e3, k v S H (Same.refl _) q h4⟩⟩
theorem ix_scr (F : Fam X P w K mg base A N) {ns : List Int} {n : Int} (hi : atI ns i = some n) : IxJ X K E R (sscr ns) (sv (.int i)) (sv (.int n)) :=
  ⟨rIxL K, fun n => by rw [← F.fK n]; exact ix_list, fun Γ S σ H x y Q q r1 r2 k => by
    cases (show y = .int i from r2)
    obtain ⟨p, rfl, h1⟩ := r1
    obtain ⟨m, v, e1, e2, e3⟩ := atI_len (xs := ns.map V.int) (by rw [List.length_map]) hi
    rw [List.getElem?_map, e1] at e2
    cases e2
    exact ⟨p, _, i, _, rfl, rfl, same_l q.sub h1, e3, k _ S H (Same.refl _) q rfl⟩⟩
theorem ix_txt {n : Nat} (hz : x.length ≤ sizeLine) (hi : atI x.cps.toList i = some n) : IxJ X K E R (sv (.str x)) (sv (.int i)) (sv (.str ⟨#[n]⟩)) :=
  ⟨rIxS, fun _ => ix_str, fun Γ S σ H v y Q q r1 r2 k => by
    cases (show v = .str x from r1)
    cases (show y = .int i from r2)
    exact ⟨x, i, n, rfl, rfl, hz, hi, k _ S H (Same.refl _) q rfl⟩⟩

/-! ### calls of built-ins -/
variable (X) (K) (E) in
def ClJ (f : Value) (R : List Res) (ss : List Sl) (s3 : Sl) : Prop := ∃ r : List V → Hp → VK → Prop, (∀ i, CallR (X i) f r) ∧ ∀ Γ S σ H vs (Q : VK), SR K E Γ R S σ H → All2 (fun (s : Sl) v => s.r K S v) ss vs → Kont K E Γ R σ S s3 Q → r vs H Q
variable (X) (K) (E) in
def ClN {ν : Type} (f : Value) (R : List Res) (ss : List Sl) (R' : ν → List Res) (s3 : ν → Sl) : Prop := ∃ r : List V → Hp → VK → Prop, (∀ i, CallR (X i) f r) ∧ ∀ Γ S σ H vs (Q : VK), SR K E Γ R S σ H → All2 (fun (s : Sl) v => s.r K S v) ss vs → (∀ n, Kont K E Γ (R' n) σ S (s3 n) Q) → r vs H Q
variable {p' : Pos}
theorem ev_callB {id : String} {f : Str} {ss : List Sl} (F : Fam X P w K mg base A N) (hm : mg f = none) (hv : bootBuiltins f = some (.builtin id)) (ha : ArJ X K E Γ R (e :: es) R1 ss) (hc : ClJ X K E (.builtin id) R1 ss s)
    (hg : ∀ i, Gl (X i) f := by exact fun _ => rfl) (he : ∀ i, starEach (e :: es) (X i).env = (false, eval e (X i).env) :: starEach es (X i).env := by exact fun _ => rfl) (hpl : ∀ i, (backTo pos (starEach es (X i).env)).any (·.1) = false := by exact fun _ => rfl) (hn : f ≠ "__name__" := by decide) (hdb : (f == ("__debug__" : Str)) = false := by decide) :
    EvJ X K E Γ R (.Call (.Name f p') (e :: es) [] pos) R1 s := by
  obtain ⟨t, a1, a2⟩ := ha
  obtain ⟨r, o1, o2⟩ := hc
  exact ⟨tCB r t, fun i => pe_callB (o1 i) (hg i) (by rw [F.fmg i]; exact hm) hv (a1 i) hn hdb (he i) (hpl i), fun S σ H Q q k => a2 S σ H _ q fun vs S1 H1 e1 q1 r1 => o2 Γ S1 σ H1 vs Q q1 r1 fun v S2 H2 e2 q2 r2 => k v S2 H2 (e1.trans e2) q2 r2⟩
theorem ev_callT {T : String} {f : Str} {ss : List Sl} (F : Fam X P w K mg base A N) (hm : mg f = none) (hv : bootBuiltins f = some (.type T)) (ha : ArJ X K E Γ R (e :: es) R1 ss) (hc : ClJ X K E (.type T) R1 ss s)
    (hg : ∀ i, Gl (X i) f := by exact fun _ => rfl) (he : ∀ i, starEach (e :: es) (X i).env = (false, eval e (X i).env) :: starEach es (X i).env := by exact fun _ => rfl) (hpl : ∀ i, (backTo pos (starEach es (X i).env)).any (·.1) = false := by exact fun _ => rfl) (hn : f ≠ "__name__" := by decide) (hdb : (f == ("__debug__" : Str)) = false := by decide) :
    EvJ X K E Γ R (.Call (.Name f p') (e :: es) [] pos) R1 s := by
  obtain ⟨t, a1, a2⟩ := ha
  obtain ⟨r, o1, o2⟩ := hc
  exact ⟨tCB r t, fun i => pe_callTy (o1 i) (hg i) (by rw [F.fmg i]; exact hm) hv (a1 i) hn hdb (he i) (hpl i), fun S σ H Q q k => a2 S σ H _ q fun vs S1 H1 e1 q1 r1 => o2 Γ S1 σ H1 vs Q q1 r1 fun v S2 H2 e2 q2 r2 => k v S2 H2 (e1.trans e2) q2 r2⟩
theorem ev_callTN {ν : Type} {R' : ν → List Res} {s3 : ν → Sl} {T : String} {f : Str} {ss : List Sl} (F : Fam X P w K mg base A N) (hm : mg f = none) (hv : bootBuiltins f = some (.type T)) (ha : ArJ X K E Γ R (e :: es) R1 ss) (hc : ClN X K E (.type T) R1 ss R' s3)
    (hg : ∀ i, Gl (X i) f := by exact fun _ => rfl) (he : ∀ i, starEach (e :: es) (X i).env = (false, eval e (X i).env) :: starEach es (X i).env := by exact fun _ => rfl) (hpl : ∀ i, (backTo pos (starEach es (X i).env)).any (·.1) = false := by exact fun _ => rfl) (hn : f ≠ "__name__" := by decide) (hdb : (f == ("__debug__" : Str)) = false := by decide) :
    EvN X K E Γ R (.Call (.Name f p') (e :: es) [] pos) R' s3 := by
  obtain ⟨t, a1, a2⟩ := ha
  obtain ⟨r, o1, o2⟩ := hc
  exact ⟨tCB r t, fun i => pe_callTy (o1 i) (hg i) (by rw [F.fmg i]; exact hm) hv (a1 i) hn hdb (he i) (hpl i), fun S σ H Q q k => a2 S σ H _ q fun vs S1 H1 e1 q1 r1 => o2 Γ S1 σ H1 vs Q q1 r1 fun n v S2 H2 e2 q2 r2 => k n v S2 H2 (e1.trans e2) q2 r2⟩
theorem ev_callBN {ν : Type} {R' : ν → List Res} {s3 : ν → Sl} {id : String} {f : Str} {ss : List Sl} (F : Fam X P w K mg base A N) (hm : mg f = none) (hv : bootBuiltins f = some (.builtin id)) (ha : ArJ X K E Γ R (e :: es) R1 ss) (hc : ClN X K E (.builtin id) R1 ss R' s3)
    (hg : ∀ i, Gl (X i) f := by exact fun _ => rfl) (he : ∀ i, starEach (e :: es) (X i).env = (false, eval e (X i).env) :: starEach es (X i).env := by exact fun _ => rfl) (hpl : ∀ i, (backTo pos (starEach es (X i).env)).any (·.1) = false := by exact fun _ => rfl) (hn : f ≠ "__name__" := by decide) (hdb : (f == ("__debug__" : Str)) = false := by decide) :
    EvN X K E Γ R (.Call (.Name f p') (e :: es) [] pos) R' s3 := by
  obtain ⟨t, a1, a2⟩ := ha
  obtain ⟨r, o1, o2⟩ := hc
  exact ⟨tCB r t, fun i => pe_callB (o1 i) (hg i) (by rw [F.fmg i]; exact hm) hv (a1 i) hn hdb (he i) (hpl i), fun S σ H Q q k => a2 S σ H _ q fun vs S1 H1 e1 q1 r1 => o2 Γ S1 σ H1 vs Q q1 r1 fun n v S2 H2 e2 q2 r2 => k n v S2 H2 (e1.trans e2) q2 r2⟩
theorem all2_one {S : Hp} {vs : List V} (h : All2 (fun (s : Sl) v => s.r K S v) [s] vs) : ∃ v, vs = [v] ∧ s.r K S v := by
  cases h with
  | cons a b => cases b; exact ⟨_, rfl, a⟩
theorem all2_two {S : Hp} {vs : List V} (h : All2 (fun (s : Sl) v => s.r K S v) [s1, s2] vs) : ∃ v u, vs = [v, u] ∧ s1.r K S v ∧ s2.r K S u := by
  cases h with
  | cons a b =>
    cases b with
    | cons c d => cases d; exact ⟨_, _, rfl, a, c⟩
theorem cl_len (F : Fam X P w K mg base A N) {ds : List PyData} (h : LV K R s1 ds) : ClJ X K E (.builtin "len") R [s1] (sv (.int ds.length)) :=
  ⟨fun xs H Q => ∃ x n, xs = [x] ∧ LenV K x H n ∧ Q (.int n) H, fun n => by rw [← F.fK n]; exact call_len, fun Γ S σ H vs Q q r k => by
    obtain ⟨v, rfl, r1⟩ := all2_one r
    obtain ⟨p, us, rfl, h1, h2⟩ := h E Γ S σ H v q r1
    exact ⟨_, ds.length, rfl, .inl ⟨us, SqL.of h1, (daAll_len h2).symm⟩, k _ S H (Same.refl _) q rfl⟩⟩
theorem cl_lenT (F : Fam X P w K mg base A N) {ds : List PyData} (h : TV K R s1 ds) : ClJ X K E (.builtin "len") R [s1] (sv (.int ds.length)) :=
  ⟨fun xs H Q => ∃ x n, xs = [x] ∧ LenV K x H n ∧ Q (.int n) H, fun n => by rw [← F.fK n]; exact call_len, fun Γ S σ H vs Q q r k => by
    obtain ⟨v, rfl, r1⟩ := all2_one r
    obtain ⟨p, us, rfl, h1, h2⟩ := h E Γ S σ H v q r1
    exact ⟨_, ds.length, rfl, .inr ⟨us, same_t q.sub h1, (daAll_len h2).symm⟩, k _ S H (Same.refl _) q rfl⟩⟩
theorem cl_lenR (F : Fam X P w K mg base A N) {ns : List Int} : ClJ X K E (.builtin "len") R [sscr ns] (sv (.int ns.length)) :=
  ⟨fun xs H Q => ∃ x n, xs = [x] ∧ LenV K x H n ∧ Q (.int n) H, fun n => by rw [← F.fK n]; exact call_len, fun Γ S σ H vs Q q r k => by
    obtain ⟨v, rfl, r1⟩ := all2_one r
    obtain ⟨p, rfl, h1⟩ := r1
    exact ⟨_, ns.length, rfl, .inl ⟨_, same_l q.sub h1, by rw [List.length_map]⟩, k _ S H (Same.refl _) q rfl⟩⟩
theorem cl_lenS (h : x.length ≤ sizeLine) : ClJ X K E (.builtin "len") R [sv (.str x)] (sv (.int x.length)) :=
  ⟨_, fun _ => call_len_str, fun Γ S σ H vs Q q r k => by
    obtain ⟨v, rfl, r1⟩ := all2_one r
    cases (show v = .str x from r1)
    exact ⟨x, rfl, h, k _ S H (Same.refl _) q rfl⟩⟩
end
end SL

/-! blocks, loops, defs -/
namespace SL
open PySem PySem.Spec PyProof.Rows L2
section
variable {ι : Type} {X : ι → Cx} {K : PySem.W.Frag} {E : Ent} {B : Hp} {Γ Γ' : Slots} {R R' R1 R2' R3 : List Res} {a b c e : Expr} {es : List Expr} {pos : Pos} {s s1 s2 s3 : Sl}
  {P : Program} {w : World} {mg : Str → Option Value} {base : Heap} {A : Around} {N : List Str} {st : Stmt} {rest sts : List Stmt} {D : Ends}
variable (X) (K) (E) in
/-- a block, from a state whose lasting part holds B -/
def Blk (B : Hp) (Γ : Slots) (R : List Res) (sts : List Stmt) (D : Ends) : Prop :=
  ∃ t : TS, (∀ i, PSs (X i) sts t) ∧ ∀ S σ H, Same B S → SR K E Γ R S σ H → t D σ H
/-- such a state -/
def Pst (K : PySem.W.Frag) (E : Ent) (B : Hp) (Γ : Slots) (R : List Res) : L2.St → Hp → Prop := fun σ H => ∃ S, Same B S ∧ SR K E Γ R S σ H
theorem blk_nil (h : ∀ S σ H, Same B S → SR K E Γ R S σ H → D.nx σ H) : Blk X K E B Γ R [] D := ⟨tNext, fun _ => pss_nil, h⟩
theorem blk_end (hw : ∀ S σ H, SR K E Γ R S σ H → SR K E Γ' R' S σ H) (hD : D.nx = Pst K E B Γ' R') : Blk X K E B Γ R [] D := blk_nil fun S σ H b q => by rw [hD]; exact ⟨S, b, hw S σ H q⟩
theorem pss_of_never {Y : Cx} : PSs Y sts (fun _ _ _ => False) := ⟨fun _ _ _ _ _ _ h => h.elim⟩
/-- many blocks, one of them -/
theorem blk_union {ν : Type} (h : ∀ n : ν, ∃ t : TS, (∀ i, PSs (X i) sts t)) (Z : ν → TS → L2.St → Hp → Prop) : True := trivial
theorem pss_any {Y : Cx} {ν : Type} {u : ν → TS} (h : ∀ n, PSs Y sts (u n)) : PSs Y sts (fun D σ H => ∃ n, u n D σ H) := ⟨fun pins s σ H D I ⟨n, q⟩ => (h n).run pins s σ H D I q⟩

/-! ### assignments -/
theorem blk_asg (F : Fam X P w K mg base A N) (k : Nat) {x : Str} {pos' : Pos} (he : EvJ X K E Γ R e R1 s) (hr : Blk X K E B (Γ.set k (some s)) R1 rest D) (hi : N[k]? = some x := by rfl) (hx : ∀ i, Loc (X i).env.scope x := by first | exact fun _ => Or.inl rfl | exact fun _ => Or.inr rfl)
    (hs : ∀ i, swapsWith e (some (.Name x pos')) pos.line (X i).env = pure false := by exact fun _ => rfl) (hf : ∀ i, (X i).fn x = true ∨ (X i).env.scope.names.lookup x = some .local := by first | exact fun _ => Or.inl rfl | exact fun _ => Or.inr rfl) : Blk X K E B Γ R (.Assign [.Name x pos'] e pos :: rest) D := by
  obtain ⟨t, h1, h2⟩ := he
  obtain ⟨u, g1, g2⟩ := hr
  refine ⟨tSeq (tAsg t (gName k)) u, fun i => pss_cons (ps_set (by rw [F.fN i]; exact F.nd) (by rw [F.fN i]; exact hi) (hx i) (h1 i) (hs i) (hf i)) (g1 i), fun S σ H b q => ?_⟩
  exact h2 S σ H _ q fun v S1 H1 e1 q1 r1 => g2 S1 _ H1 (b.trans e1) (q1.setSlot k r1)
theorem blk_asgN {ν : Type} {Rn : ν → List Res} {sn : ν → Sl} (F : Fam X P w K mg base A N) (k : Nat) {x : Str} {pos' : Pos} (he : EvN X K E Γ R e Rn sn)
    (hr : ∀ n, Blk X K E B (Γ.set k (some (sn n))) (Rn n) rest D) (hi : N[k]? = some x := by rfl) (hx : ∀ i, Loc (X i).env.scope x := by first | exact fun _ => Or.inl rfl | exact fun _ => Or.inr rfl)
    (hs : ∀ i, swapsWith e (some (.Name x pos')) pos.line (X i).env = pure false := by exact fun _ => rfl) (hf : ∀ i, (X i).fn x = true ∨ (X i).env.scope.names.lookup x = some .local := by first | exact fun _ => Or.inl rfl | exact fun _ => Or.inr rfl) : Blk X K E B Γ R (.Assign [.Name x pos'] e pos :: rest) D := by
  obtain ⟨t, h1, h2⟩ := he
  have hr' := fun n => Classical.choose_spec (hr n)
  refine ⟨tSeq (tAsg t (gName k)) _, fun i => pss_cons (ps_set (by rw [F.fN i]; exact F.nd) (by rw [F.fN i]; exact hi) (hx i) (h1 i) (hs i) (hf i)) (pss_any fun n => (hr' n).1 i), fun S σ H b q => ?_⟩
  exact h2 S σ H _ q fun n v S1 H1 e1 q1 r1 => ⟨n, (hr' n).2 S1 _ H1 (b.trans e1) (q1.setSlot k r1)⟩

/-! ### return -/
theorem blk_ret (he : EvJ X K E Γ R e R1 s) (h : ∀ S σ H v, SR K E Γ R1 S σ H → s.r K S v → D.rt v H) : Blk X K E B Γ R (.Return (some e) pos :: rest) D := by
  obtain ⟨t, h1, h2⟩ := he
  exact ⟨tSeq (tRet t) _, fun i => pss_cons (ps_ret (h1 i)) pss_of_never, fun S σ H b q => h2 S σ H _ q fun v S1 H1 e1 q1 r1 => h S1 σ H1 v q1 r1⟩
theorem blk_retN {ν : Type} {Rn : ν → List Res} {sn : ν → Sl} (he : EvN X K E Γ R e Rn sn) (h : ∀ n S σ H v, SR K E Γ (Rn n) S σ H → (sn n).r K S v → D.rt v H) : Blk X K E B Γ R (.Return (some e) pos :: rest) D := by
  obtain ⟨t, h1, h2⟩ := he
  exact ⟨tSeq (tRet t) _, fun i => pss_cons (ps_ret (h1 i)) pss_of_never, fun S σ H b q => h2 S σ H _ q fun n v S1 H1 e1 q1 r1 => h n S1 σ H1 v q1 r1⟩
theorem blk_ret0 (h : ∀ S σ H, SR K E Γ R S σ H → D.rt .non H) : Blk X K E B Γ R (.Return none pos :: rest) D :=
  ⟨tSeq tRetN _, fun i => pss_cons ps_retN pss_of_never, fun S σ H b q => h S σ H q⟩
/-- an expression alone -/
theorem blk_expr (he : EvJ X K E Γ R e R1 s) (hr : Blk X K E B Γ R1 rest D) (hs : ∀ i, swapsWith e none pos.line (X i).env = pure false := by exact fun _ => rfl) : Blk X K E B Γ R (.Expr e pos :: rest) D := by
  obtain ⟨t, h1, h2⟩ := he
  obtain ⟨u, g1, g2⟩ := hr
  exact ⟨tSeq (tDrop t) u, fun i => pss_cons (ps_expr (h1 i) (hs i)) (g1 i), fun S σ H b q => h2 S σ H _ q fun v S1 H1 e1 q1 r1 => g2 S1 σ H1 (b.trans e1) q1⟩
theorem blk_doc {x : Str} {j : Nat} {pos' : Pos} (hr : Blk X K E B Γ R rest D) : Blk X K E B Γ R (.Expr (.Constant (.str x) j pos) pos' :: rest) D :=
  let ⟨u, g1, g2⟩ := hr; ⟨tSeq tNext u, fun i => pss_cons ps_doc (g1 i), fun S σ H b q => g2 S σ H b q⟩

/-! ### if -/
/-- the body leaves -/
theorem blk_ifRet {bd : List Stmt} {k : Bool} (hc : TeJ X K E Γ R c k) (ha : k = true → Blk X K E B Γ R bd { nx := fun _ _ => False, rt := D.rt, bk := D.bk, ct := D.ct }) (hr : k = false → Blk X K E B Γ R rest D) : Blk X K E B Γ R (.If c bd [] pos :: rest) D := by
  obtain ⟨tc, c1, c2⟩ := hc
  cases k with
  | true =>
    obtain ⟨t, h1, h2⟩ := ha rfl
    exact ⟨tSeq (tIfS tc t tNext) (fun _ _ _ => False), fun i => pss_cons (ps_if (c1 i) (h1 i) pss_nil) pss_of_never, fun S σ H b q => c2 S σ H _ q fun S1 H1 e1 q1 => iteT (h2 S1 σ H1 (b.trans e1) q1)⟩
  | false =>
    obtain ⟨t, h1, h2⟩ := hr rfl
    exact ⟨tSeq (tIfS tc (fun _ _ _ => False) tNext) t, fun i => pss_cons (ps_if (c1 i) pss_of_never pss_nil) (h1 i), fun S σ H b q => c2 S σ H _ q fun S1 H1 e1 q1 => iteF (h2 S1 σ H1 (b.trans e1) q1)⟩
/-- both ways meet in a state -/
theorem blk_if {bd be : List Stmt} {k : Bool} (Γ' : Slots) (R' : List Res) (hc : TeJ X K E Γ R c k) (ha : k = true → Blk X K E B Γ R bd { nx := Pst K E B Γ' R', rt := D.rt, bk := D.bk, ct := D.ct })
    (hb : k = false → Blk X K E B Γ R be { nx := Pst K E B Γ' R', rt := D.rt, bk := D.bk, ct := D.ct }) (hr : Blk X K E B Γ' R' rest D) : Blk X K E B Γ R (.If c bd be pos :: rest) D := by
  obtain ⟨tc, c1, c2⟩ := hc
  obtain ⟨u, g1, g2⟩ := hr
  cases k with
  | true =>
    obtain ⟨t, h1, h2⟩ := ha rfl
    exact ⟨Evl.tCut (tIfS tc t (fun _ _ _ => False)) u, fun i => Evl.pss_cut (ps_if (c1 i) (h1 i) pss_of_never) (g1 i), fun S σ H b q => ⟨Pst K E B Γ' R', c2 S σ H _ q fun S1 H1 e1 q1 => iteT (h2 S1 σ H1 (b.trans e1) q1), fun σ' H' ⟨S2, e2, q2⟩ => g2 S2 σ' H' e2 q2⟩⟩
  | false =>
    obtain ⟨t, h1, h2⟩ := hb rfl
    exact ⟨Evl.tCut (tIfS tc (fun _ _ _ => False) t) u, fun i => Evl.pss_cut (ps_if (c1 i) pss_of_never (h1 i)) (g1 i), fun S σ H b q => ⟨Pst K E B Γ' R', c2 S σ H _ q fun S1 H1 e1 q1 => iteF (h2 S1 σ H1 (b.trans e1) q1), fun σ' H' ⟨S2, e2, q2⟩ => g2 S2 σ' H' e2 q2⟩⟩
/-- an if at the end of a block: both ways go on to what is wanted -/
theorem blk_ifEnd {bd be : List Stmt} {k : Bool} (hc : TeJ X K E Γ R c k) (ha : k = true → Blk X K E B Γ R bd D) (hb : k = false → Blk X K E B Γ R be D) : Blk X K E B Γ R [.If c bd be pos] D := by
  obtain ⟨tc, c1, c2⟩ := hc
  cases k with
  | true =>
    obtain ⟨t, h1, h2⟩ := ha rfl
    exact ⟨tIfS tc t (fun _ _ _ => False), fun i => pss_one (ps_if (c1 i) (h1 i) pss_of_never), fun S σ H b q => c2 S σ H _ q fun S1 H1 e1 q1 => iteT (h2 S1 σ H1 (b.trans e1) q1)⟩
  | false =>
    obtain ⟨t, h1, h2⟩ := hb rfl
    exact ⟨tIfS tc (fun _ _ _ => False) t, fun i => pss_one (ps_if (c1 i) pss_of_never (h1 i)), fun S σ H b q => c2 S σ H _ q fun S1 H1 e1 q1 => iteF (h2 S1 σ H1 (b.trans e1) q1)⟩

/-! ### targets -/
/-- the slots behind target = something of which it y is said -/
def TgA {α : Type} (X : ι → Cx) (K : PySem.W.Frag) (E : Ent) (tg : Expr) (it : α → Sl) (up : α → Slots → Slots) (ups : List Nat) : Prop :=
  ∃ g : TG, (∀ i, PG (X i) tg g) ∧ (∀ y Γ R S σ H v (Q : L2.St → Hp → Prop), SR K E Γ R S σ H → (it y).r K S v → (∀ σ', SR K E (up y Γ) R S σ' H → (∀ j, j ∉ ups → σ'[j]? = σ[j]?) → σ'.length = σ.length → Q σ' H) → g v σ H Q)
theorem set_other {α : Type} {l : List α} {k j : Nat} {x : α} (h : j ∉ [k]) : (l.set k x)[j]? = l[j]? := List.getElem?_set_ne (fun e => h (by simp [e]))
theorem tg_name {α : Type} {it : α → Sl} (F : Fam X P w K mg base A N) (k : Nat) {x : Str} (hi : N[k]? = some x := by rfl) (hx : ∀ i, Loc (X i).env.scope x := by first | exact fun _ => Or.inl rfl | exact fun _ => Or.inr rfl)
    (hf : ∀ i, (X i).fn x = true ∨ (X i).env.scope.names.lookup x = some .local := by first | exact fun _ => Or.inl rfl | exact fun _ => Or.inr rfl) : TgA X K E (.Name x pos) it (fun y Γ => Γ.set k (some (it y))) [k] :=
  ⟨gName k, fun i => pg_name (by rw [F.fN i]; exact F.nd) (by rw [F.fN i]; exact hi) (hx i) (hf i), fun y Γ R S σ H v Q q r h => h _ (q.setSlot k r) (fun j hj => set_other hj) List.length_set⟩
/-- several targets -/
def TgsA {α : Type} (X : ι → Cx) (K : PySem.W.Frag) (E : Ent) (tgs : List Expr) (its : α → List Sl) (n : Nat) (up : α → Slots → Slots) (ups : List Nat) : Prop :=
  (∀ y, (its y).length = n) ∧ ∃ g : TGs, (∀ i, PGs (X i) tgs g) ∧ (∀ y Γ R S σ H vs (Q : L2.St → Hp → Prop), SR K E Γ R S σ H → All2 (fun (s : Sl) v => s.r K S v) (its y) vs → (∀ σ', SR K E (up y Γ) R S σ' H → (∀ j, j ∉ ups → σ'[j]? = σ[j]?) → σ'.length = σ.length → Q σ' H) → g vs σ H Q)
theorem tgs_nil {α : Type} : TgsA (α := α) X K E [] (fun _ => []) 0 (fun _ Γ => Γ) [] :=
  ⟨fun _ => rfl, gNil, fun _ => pgs_nil, fun y Γ R S σ H vs Q q r h => by
    cases r
    exact ⟨rfl, h σ q (fun _ _ => rfl) rfl⟩⟩
theorem tgs_cons {α : Type} {it : α → Sl} {its : α → List Sl} {up up' : α → Slots → Slots} {u1 u2 : List Nat} {n : Nat} {tg : Expr} {tgs : List Expr} (h1 : TgA X K E tg it up u1) (h2 : TgsA X K E tgs its n up' u2)
    (hs : ∀ i, (assignEach (tg :: tgs) (X i).env).map (·.2) = assign tg (X i).env :: (assignEach tgs (X i).env).map (·.2) := by exact fun _ => rfl) : TgsA X K E (tg :: tgs) (fun y => it y :: its y) (n + 1) (fun y Γ => up' y (up y Γ)) (u1 ++ u2) := by
  obtain ⟨g, a1, a2⟩ := h1
  obtain ⟨b0, gs, b1, b2⟩ := h2
  refine ⟨fun y => by rw [List.length_cons, b0 y], gCons g gs, fun i => pgs_cons (a1 i) (b1 i) (hs i), fun y Γ R S σ H vs Q q r h => ?_⟩
  cases r with
  | cons r rr =>
    refine ⟨_, _, rfl, a2 y Γ R S σ H _ _ q r fun σ1 q1 o1 l1 => b2 y _ R S σ1 H _ _ q1 rr fun σ2 q2 o2 l2 => h σ2 q2 (fun j hj => ?_) (l2.trans l1)⟩
    rw [o2 j fun z => hj (List.mem_append_right _ z), o1 j fun z => hj (List.mem_append_left _ z)]
theorem tg_tup {α : Type} {its : α → List Sl} {up : α → Slots → Slots} {us : List Nat} {tgs : List Expr} {k n : Nat} (F : Fam X P w K mg base A N) (h : TgsA X K E tgs its n up us) (hn : ∀ i, (assignEach tgs (X i).env).length = n := by exact fun _ => rfl)
    (hst : ∀ i, (assignEach tgs (X i).env).findIdx? (·.1) = none := by exact fun _ => rfl) (hcm : ∀ i, (X i).calm = true := by exact fun _ => rfl) : TgA X K E (.Tuple tgs k pos) (fun y => stup (its y)) up us := by
  obtain ⟨hl, g, a1, a2⟩ := h
  refine ⟨gTup K n g, fun i => by rw [← F.fK i]; exact pg_tup (hcm i) (a1 i) (hn i) (hst i), fun y Γ R S σ H v Q q r h => ?_⟩
  obtain ⟨p, vs, e, h1, h2⟩ := r
  exact ⟨p, vs, e, same_t q.sub h1, by rw [← h2.len, hl y], a2 y Γ R S σ H vs Q q h2 h⟩
theorem tg_is {α : Type} {it it' : α → Sl} {up : α → Slots → Slots} {us : List Nat} {tg : Expr} (h : TgA X K E tg it up us) (hs : ∀ y S v, (it' y).r K S v → (it y).r K S v) : TgA X K E tg it' up us :=
  let ⟨g, a1, a2⟩ := h; ⟨g, a1, fun y Γ R S σ H v Q q r => a2 y Γ R S σ H v Q q (hs y S v r)⟩
/-- a tuple of data is a tuple of what is said of its items -/
theorem daAll_sl {S : Hp} : ∀ {vs : List V} {ds : List PyData}, DaAll K S vs ds → All2 (fun (s : Sl) v => s.r K S v) (ds.map sl) vs
  | _, _, .nil => .nil
  | _, _, .cons h t => .cons (sl_da.mpr h) (daAll_sl t)
theorem tup_sl {S : Hp} {v : V} {ds : List PyData} (h : (sd (.tuple ds)).r K S v) : (stup (ds.map sl)).r K S v := by
  cases h with
  | tup h1 h2 => exact ⟨_, _, rfl, h1, daAll_sl h2⟩

/-- (a, b, ..) = e -/
theorem blk_unpack {tg : Expr} {up : Unit → Slots → Slots} {us : List Nat} (F : Fam X P w K mg base A N) (he : EvJ X K E Γ R e R1 s) (ht : TgA X K E tg (fun _ : Unit => s) up us) (hr : Blk X K E B (up () Γ) R1 rest D)
    (hs : ∀ i, swapsWithSole [tg] e pos.line (X i).env = pure false := by exact fun _ => rfl) (hw : ∀ i, swappedStores [tg] e (X i).env = pure none := by exact fun _ => rfl) (h1 : ∀ i, (assignEach [tg] (X i).env).map (·.2) = [assign tg (X i).env] := by exact fun _ => rfl) :
    Blk X K E B Γ R (.Assign [tg] e pos :: rest) D := by
  obtain ⟨t, a1, a2⟩ := he
  obtain ⟨g, b1, b2⟩ := ht
  obtain ⟨u, c1, c2⟩ := hr
  exact ⟨tSeq (tAsg t g) u, fun i => pss_cons (ps_asg (a1 i) (b1 i) (hs i) (hw i) (h1 i)) (c1 i), fun S σ H b q => a2 S σ H _ q fun v S1 H1 e1 q1 r1 => b2 () Γ R1 S1 σ H1 v _ q1 r1 fun σ' q' _ _ => c2 S1 σ' H1 (b.trans e1) q'⟩

/-! ### what is walked -/
/-- iter gives, turn by turn, things of which items is said; hC: what has to stay of what is one's own -/
def ItJ (X : ι → Cx) (K : PySem.W.Frag) (E : Ent) (Γ : Slots) (R : List Res) (tg iter : Expr) (R1 : List Res) (items : List Sl) (C : List Res → Prop) : Prop :=
  ∃ wi : TI, (∀ i, PI (X i) tg iter wi) ∧ ∀ S σ H (Rk : It → Hp → Prop), SR K E Γ R S σ H →
    (∀ J S1 H1, Same S S1 → SR K E Γ R1 S1 σ H1 →
      (∀ (n : Nat) Γ' R' S' σ' H', Same S1 S' → SR K E Γ' R' S' σ' H' → C R' →
        (∀ s, items[n]? = some s → J.go n H' ∧ ∀ x H'', J.yld n H' x H'' → ∃ S'', Same S' S'' ∧ SR K E Γ' R' S'' σ' H'' ∧ s.r K S'' x) ∧ (items.length ≤ n → J.stop n H')) → Rk J H1) → wi σ H Rk
abbrev CAny : List Res → Prop := fun _ => True
theorem it_list (F : Fam X P w K mg base A N) {tg : Expr} {ds : List PyData} (h : EvJ X K E Γ R e R1 (sd (.list ds))) : ItJ X K E Γ R tg e R1 (ds.map sl) CAny := by
  obtain ⟨t, a1, a2⟩ := h
  refine ⟨iList K t, fun i => by rw [← F.fK i]; exact pi_list (a1 i), fun S σ H Rk q k => a2 S σ H _ q fun v S1 H1 e1 q1 r1 => ?_⟩
  obtain ⟨p, vs, rfl, h1, h2⟩ := lv_d E Γ S1 σ H1 v q1 r1
  have sp : S1 p = some (.lst vs) := by
    cases r1 with
    | lst z _ => rw [q1.sub _ _ z] at h1; rw [← h1]; exact z
  refine ⟨p, rfl, ⟨vs, SqL.of h1⟩, k _ S1 H1 e1 q1 fun n Γ' R' S' σ' H' e' q' _ => ⟨fun s hs => ?_, fun hn => ⟨vs, SqL.of (q'.sub _ _ (e' _ _ sp)), by rw [List.length_map] at hn; rw [daAll_len h2]; exact hn⟩⟩⟩
  rw [List.getElem?_map] at hs
  cases e2 : ds[n]? with
  | none => rw [e2] at hs; cases hs
  | some d =>
    rw [e2] at hs
    cases hs
    obtain ⟨x, hx, hd⟩ := daAll_get' h2 e2
    refine ⟨⟨vs, x, SqL.of (q'.sub _ _ (e' _ _ sp)), hx⟩, fun y H'' hy => ?_⟩
    obtain ⟨rfl, hy⟩ := hy
    have := hy vs (SqL.of (q'.sub _ _ (e' _ _ sp)))
    rw [hx] at this
    cases this
    exact ⟨S', Same.refl _, q', sl_da.mpr (da_same e' hd)⟩
/-- one's own list that stays as it is -/
theorem it_mine (F : Fam X P w K mg base A N) {tg : Expr} {p : Addr} {ds : List PyData} (h : EvJ X K E Γ R e R1 (sv (.ref p))) (m : Nat) (hm : R1[m]? = some (rL p ds)) : ItJ X K E Γ R tg e R1 (ds.map sl) (fun R' => R'[m]? = some (rL p ds)) := by
  obtain ⟨t, a1, a2⟩ := h
  refine ⟨iList K t, fun i => by rw [← F.fK i]; exact pi_list (a1 i), fun S σ H Rk q k => a2 S σ H _ q fun v S1 H1 e1 q1 r1 => ?_⟩
  cases (show v = .ref p from r1)
  obtain ⟨p', vs, e0, h1, h2⟩ := lv_o m hm E Γ S1 σ H1 _ q1 rfl
  cases e0
  refine ⟨p, rfl, ⟨vs, SqL.of h1⟩, k _ S1 H1 e1 q1 fun n Γ' R' S' σ' H' e' q' hC => ?_⟩
  obtain ⟨p', us, e0, g1, g2⟩ := lv_o m hC E Γ' S' σ' H' _ q' rfl
  cases e0
  refine ⟨fun s hs => ?_, fun hn => ⟨us, SqL.of g1, by rw [List.length_map] at hn; rw [daAll_len g2]; exact hn⟩⟩
  rw [List.getElem?_map] at hs
  cases e2 : ds[n]? with
  | none => rw [e2] at hs; cases hs
  | some d =>
    rw [e2] at hs
    cases hs
    obtain ⟨x, hx, hd⟩ := daAll_get' g2 e2
    refine ⟨⟨us, x, SqL.of g1, hx⟩, fun y H'' hy => ?_⟩
    obtain ⟨rfl, hy⟩ := hy
    have := hy us (SqL.of g1)
    rw [hx] at this
    cases this
    exact ⟨S', Same.refl _, q', sl_da.mpr hd⟩
end
end SL

/-! more that is walked; loops; comprehensions -/
namespace SL
open PySem PySem.Spec PyProof.Rows L2
section
variable {ι : Type} {X : ι → Cx} {K : PySem.W.Frag} {E : Ent} {B : Hp} {Γ Γ' : Slots} {R R' R1 R2' R3 : List Res} {a b c e : Expr} {es : List Expr} {pos : Pos} {s s1 s2 s3 : Sl}
  {P : Program} {w : World} {mg : Str → Option Value} {base : Heap} {A : Around} {N : List Str} {st : Stmt} {rest sts : List Stmt} {D : Ends} {S S' H H' : Hp} {σ σ' : L2.St}

/-! ### changes of what is one's own -/
theorem all2_split {α β : Type} {F : α → β → Prop} : ∀ {as : List α} {bs : List β} {k : Nat} {a : α}, All2 F as bs → as[k]? = some a → ∃ b, bs[k]? = some b ∧ F a b ∧ ∀ b' (G : α → β → Prop) a', G a' b' → (∀ j x y, j ≠ k → as[j]? = some x → bs[j]? = some y → F x y → G x y) → All2 G (as.set k a') (bs.set k b')
  | _, _, _, _, .nil, e => by simp at e
  | _, _, 0, _, .cons (as := as) (bs := bs) h t, e => by
    simp at e
    subst e
    refine ⟨_, rfl, h, fun b' G a' g hk => .cons g ?_⟩
    have : ∀ (as : List _) (bs : List _), All2 F as bs → (∀ (j : Nat) x y, as[j]? = some x → bs[j]? = some y → F x y → G x y) → All2 G as bs := fun as bs h hh => by
      induction h with
      | nil => exact .nil
      | cons p _ ih => exact .cons (hh 0 _ _ rfl rfl p) (ih fun j x y e1 e2 => hh (j + 1) x y e1 e2)
    exact this _ _ t fun j x y e1 e2 => hk (j + 1) x y (by omega) e1 e2
  | _, _, k + 1, a, .cons h t, e => by
    obtain ⟨b, e1, h1, h2⟩ := all2_split (k := k) (a := a) t (by simpa using e)
    exact ⟨b, e1, h1, fun b' G a' g hk => .cons (hk 0 _ _ (by omega) rfl rfl h) (h2 b' G a' g fun j x y hj e1 e2 => hk (j + 1) x y (by omega) e1 e2)⟩
theorem pairwise_get {α : Type} {P : α → α → Prop} {l : List α} (h : l.Pairwise P) (hs : ∀ a b, P a b → P b a) {i j : Nat} {x y : α} (hij : i ≠ j) (hi : l[i]? = some x) (hj : l[j]? = some y) : P x y := by
  obtain ⟨h1, e1⟩ := List.getElem?_eq_some_iff.mp hi
  obtain ⟨h2, e2⟩ := List.getElem?_eq_some_iff.mp hj
  rcases Nat.lt_or_gt_of_ne hij with hlt | hlt
  · have := List.pairwise_iff_getElem.mp h i j h1 h2 hlt
    rw [e1, e2] at this
    exact this
  · have := List.pairwise_iff_getElem.mp h j i h2 h1 hlt
    rw [e1, e2] at this
    exact hs _ _ this
theorem pairwise_set {α : Type} {P : α → α → Prop} {l : List α} (hs : ∀ a b, P a b → P b a) (h : l.Pairwise P) {k : Nat} {x : α} (hx : ∀ (j : Nat) y, j ≠ k → l[j]? = some y → P y x) : (l.set k x).Pairwise P := by
  rw [List.pairwise_iff_getElem] at h ⊢
  intro i j hi hj hij
  rw [List.length_set] at hi hj
  rw [List.getElem_set, List.getElem_set]
  by_cases e1 : k = i
  · subst e1
    have : ¬ k = j := by omega
    simp only [if_neg this]
    exact hs _ _ (hx j _ (by omega) (List.getElem?_eq_getElem hj))
  · by_cases e2 : k = j
    · subst e2
      simp only [if_neg e1]
      exact hx i _ (by omega) (List.getElem?_eq_getElem hi)
    · simp only [if_neg e1, if_neg e2]
      exact h i j hi hj hij
theorem disj_symm {O O' : Hp} (h : ∀ a, O a ≠ none → O' a = none) : ∀ a, O' a ≠ none → O a = none := fun a ha => by
  cases e : O a with
  | none => rfl
  | some u => exact absurd (h a (by rw [e]; exact fun z => nomatch z)) ha
/-- one cell of one's own is written -/
theorem SR.put (q : SR K E Γ R S σ H) (k : Nat) {p : Addr} {o' : HO} {ρ ρ' : Res} (hk : R[k]? = some ρ) (h1 : ∀ O, ρ.r K S O → ∃ o, O = hOne p o) (h2 : ρ'.r K S (hOne p o')) : SR K E Γ (R.set k ρ') S σ (upd H p o') := by
  obtain ⟨Os, ⟨a1, a2⟩, a3⟩ := q.own
  obtain ⟨O, e1, ⟨g1, g2, g3⟩, g4⟩ := all2_split a1 hk
  obtain ⟨o, rfl⟩ := h1 O g1
  have hp : S p = none := g3 p (by rw [hOne_same]; exact fun z => nomatch z)
  have hop := hOne_same (p := p) (o := o)
  have own_p : E.A0 p ∨ E.H0 p = none := a3 _ (List.mem_of_getElem? e1) p (by rw [hop]; exact fun z => nomatch z)
  have others : ∀ (j : Nat) O', j ≠ k → Os[j]? = some O' → O' p = none := fun j O' hj e => disj_symm (pairwise_get a2 (fun _ _ => disj_symm) hj e e1) p (by rw [hop]; exact fun z => nomatch z)
  refine ⟨same_under q.sub hp, q.ext, fun a u e n => ?_, q.new, ⟨Os.set k (hOne p o'), ⟨g4 (hOne p o') _ ρ' ⟨h2, fun a u e => ?_, fun a ha => by rw [hOne_not ha]; exact hp⟩ fun j x y hj e2 e3 ⟨b1, b2, b3⟩ => ⟨b1, same_under b2 (others j y hj e3), b3⟩, ?_⟩, fun O' hO a ha => ?_⟩, q.slots⟩
  · by_cases ha : a = p
    · subst ha
      rcases own_p with z | z
      · exact absurd z n
      · rw [z] at e; cases e
    · rw [upd_ne ha]; exact q.fr a u e n
  · obtain ⟨z1, z2⟩ := hOne_some e
    subst z1 z2
    exact upd_same
  · refine pairwise_set (fun _ _ => disj_symm) a2 fun j O' hj e a ha => ?_
    by_cases z : a = p
    · subst z; exact absurd (others j O' hj e) ha
    · exact hOne_ne z
  · rcases List.mem_or_eq_of_mem_set hO with z | z
    · exact a3 O' z a ha
    · subst z
      rw [hOne_not ha]
      exact own_p
theorem SR.putL (q : SR K E Γ R S σ H) (k : Nat) {p : Addr} {ds ds' : List PyData} {vs' : List V} (hk : R[k]? = some (rL p ds)) (h2 : DaAll K S vs' ds') : SR K E Γ (R.set k (rL p ds')) S σ (upd H p (.lst vs')) :=
  q.put k hk (fun O ⟨vs, e, _⟩ => ⟨_, e⟩) ⟨vs', rfl, h2⟩
theorem set_last {α : Type} {l : List α} {x y : α} : (l ++ [x]).set l.length y = l ++ [y] := by simp
theorem get_last {α : Type} {l : List α} {x : α} : (l ++ [x])[l.length]? = some x := by simp
/-- other slots -/
theorem SR.reslot {Γ1 : Slots} {σ1 : L2.St} (q : SR K E Γ1 R S σ1 H) (h : All2 (fun (s : Option Sl) (o : Option V) => ∀ s', s = some s' → ∃ v, o = some v ∧ s'.r K S v) Γ σ) : SR K E Γ R S σ H := ⟨q.sub, q.ext, q.fr, q.new, q.own, h⟩
theorem slots_mono {S S' : Hp} (e : Same S S') (h : All2 (fun (s : Option Sl) (o : Option V) => ∀ s', s = some s' → ∃ v, o = some v ∧ s'.r K S v) Γ σ) : All2 (fun (s : Option Sl) (o : Option V) => ∀ s', s = some s' → ∃ v, o = some v ∧ s'.r K S' v) Γ σ :=
  h.imp fun s o g s' z => let ⟨v, e1, e2⟩ := g s' z; ⟨v, e1, s'.mono e e2⟩
/-- less of what is one's own -/
theorem SR.drop (q : SR K E Γ (R ++ R') S σ H) : SR K E Γ R S σ H := by
  obtain ⟨Os, ⟨a1, a2⟩, a3⟩ := q.own
  have : ∀ (R : List Res) (Os : List Hp), All2 (fun (ρ : Res) O => ρ.r K S O ∧ Same O H ∧ ∀ a, O a ≠ none → S a = none) (R ++ R') Os → ∃ O1 O2, Os = O1 ++ O2 ∧ All2 (fun (ρ : Res) O => ρ.r K S O ∧ Same O H ∧ ∀ a, O a ≠ none → S a = none) R O1 := by
    intro R
    induction R with
    | nil => exact fun Os _ => ⟨[], Os, rfl, .nil⟩
    | cons r R ih =>
      intro Os h
      cases h with
      | cons p t =>
        obtain ⟨O1, O2, e, h⟩ := ih _ t
        subst e
        exact ⟨_ :: O1, O2, rfl, .cons p h⟩
  obtain ⟨O1, O2, rfl, h⟩ := this R Os a1
  exact ⟨q.sub, q.ext, q.fr, q.new, ⟨O1, ⟨h, (List.pairwise_append.mp a2).1⟩, fun O hO => a3 O (List.mem_append_left _ hO)⟩, q.slots⟩

/-! ### more iterables -/
variable {p' : Pos}
theorem it_range1 {j : Int} {tg : Expr} (F : Fam X P w K mg base A N) (hm : mg "range" = none) (h : EvJ X K E Γ R a R1 (sv (.int j))) (hb : -(2 ^ 62) ≤ j ∧ j < 2 ^ 62) (hg : ∀ i, Gl (X i) "range" := by exact fun _ => rfl) (hs : ∀ i, starEach [a] (X i).env = [(false, eval a (X i).env)] := by exact fun _ => rfl) :
    ItJ X K E Γ R tg (.Call (.Name "range" p') [a] [] pos) R1 ((List.range j.toNat).map fun (n : Nat) => sv (.int (n : Int))) CAny := by
  obtain ⟨t, a1, a2⟩ := ar_cons h ar_nil hs
  refine ⟨iRng1 t, fun i => pi_range1 (hg i) (by rw [F.fmg i]; exact hm) (a1 i) (hs i), fun S σ H Rk q k => a2 S σ H _ q fun vs S1 H1 e1 q1 r1 => ?_⟩
  obtain ⟨v, rfl, r2⟩ := all2_one r1
  cases (show v = .int j from r2)
  refine ⟨j, rfl, hb.1, hb.2, k _ S1 H1 e1 q1 fun n Γ' R' S' σ' H' e' q' _ => ⟨fun s hs => ?_, fun hn => by rw [List.length_map, List.length_range] at hn; exact hn⟩⟩
  rw [List.getElem?_map] at hs
  cases e2 : (List.range j.toNat)[n]? with
  | none => rw [e2] at hs; cases hs
  | some m =>
    rw [e2] at hs
    cases hs
    obtain ⟨hl, e3⟩ := List.getElem?_eq_some_iff.mp e2
    rw [List.getElem_range] at e3
    rw [List.length_range] at hl
    subst e3
    refine ⟨hl, fun x H'' ⟨e4, e5⟩ => ?_⟩
    subst e4 e5
    exact ⟨S', Same.refl _, q', by show V.int (0 + (n : Int)) = V.int (n : Int); rw [Int.zero_add]⟩
theorem it_range2 {i j : Int} {tg : Expr} (F : Fam X P w K mg base A N) (hm : mg "range" = none) (h : EvJ X K E Γ R a R1 (sv (.int i))) (h2 : EvJ X K E Γ R1 b R2' (sv (.int j)))
    (hb : -(2 ^ 62) ≤ i ∧ i < 2 ^ 62 ∧ -(2 ^ 62) ≤ j ∧ j < 2 ^ 62) (hg : ∀ i, Gl (X i) "range" := by exact fun _ => rfl) (hs : ∀ i, starEach [a, b] (X i).env = [(false, eval a (X i).env), (false, eval b (X i).env)] := by exact fun _ => rfl) (hs2 : ∀ i, starEach [b] (X i).env = [(false, eval b (X i).env)] := by exact fun _ => rfl) :
    ItJ X K E Γ R tg (.Call (.Name "range" p') [a, b] [] pos) R2' ((List.range (j - i).toNat).map fun (n : Nat) => sv (.int (i + (n : Int)))) CAny := by
  obtain ⟨t, a1, a2⟩ := ar_cons h (ar_cons h2 ar_nil hs2) (fun i => by rw [hs i, hs2 i])
  refine ⟨iRng2 t, fun i => pi_range2 (hg i) (by rw [F.fmg i]; exact hm) (a1 i) (hs i) (hs2 i), fun S σ H Rk q k => a2 S σ H _ q fun vs S1 H1 e1 q1 r1 => ?_⟩
  obtain ⟨v, u, rfl, r1, r2⟩ := all2_two r1
  cases (show v = .int i from r1)
  cases (show u = .int j from r2)
  refine ⟨i, j, rfl, hb, k _ S1 H1 e1 q1 fun n Γ' R' S' σ' H' e' q' _ => ⟨fun s hs => ?_, fun hn => by rw [List.length_map, List.length_range] at hn; exact hn⟩⟩
  rw [List.getElem?_map] at hs
  cases e2 : (List.range (j - i).toNat)[n]? with
  | none => rw [e2] at hs; cases hs
  | some m =>
    rw [e2] at hs
    cases hs
    obtain ⟨hl, e3⟩ := List.getElem?_eq_some_iff.mp e2
    rw [List.getElem_range] at e3
    rw [List.length_range] at hl
    subst e3
    refine ⟨hl, fun x H'' ⟨e4, e5⟩ => ?_⟩
    subst e4 e5
    exact ⟨S', Same.refl _, q', rfl⟩
theorem it_str {tg : Expr} {x : Str} (h : EvJ X K E Γ R e R1 (sv (.str x))) : ItJ X K E Γ R tg e R1 (x.cps.toList.map fun c => sv (.str ⟨#[c]⟩)) CAny := by
  obtain ⟨t, a1, a2⟩ := h
  refine ⟨iStr t, fun i => pi_str (a1 i), fun S σ H Rk q k => a2 S σ H _ q fun v S1 H1 e1 q1 r1 => ?_⟩
  refine ⟨x, r1, k _ S1 H1 e1 q1 fun n Γ' R' S' σ' H' e' q' _ => ⟨fun s hs => ?_, fun hn => by rw [List.length_map, Array.length_toList] at hn; exact hn⟩⟩
  rw [List.getElem?_map, Array.getElem?_toList] at hs
  cases e2 : x.cps[n]? with
  | none => rw [e2] at hs; cases hs
  | some c =>
    rw [e2] at hs
    cases hs
    refine ⟨(Array.getElem?_eq_some_iff.mp e2).1, fun y H'' ⟨e4, c', e5, e6⟩ => ?_⟩
    subst e4 e6
    rw [e2] at e5
    cases e5
    exact ⟨S', Same.refl _, q', rfl⟩

/-! ### for -/
theorem blk_for {α : Type} {tg iter : Expr} {bd : List Stmt} {C : List Res → Prop} {us : List Nat} {xs : List α} {it : α → Sl} {up : α → Slots → Slots} (G : List α → Slots) (RR : List α → List Res)
    (F : Fam X P w K mg base A N) (hp : ∀ i, PassesOwn (model (X i).prog (X i).w) (X i).A (X i).env (X i).xe) (hi : ItJ X K E Γ R tg iter R1 (xs.map it) C) (htg : TgA X K E tg it up us)
    (h0 : ∀ S σ H, SR K E Γ R1 S σ H → SR K E (G []) (RR []) S σ H) (hC : ∀ pre, C (RR pre))
    (hb : ∀ pre x post B' (Z : L2.St → Hp → Prop), xs = pre ++ x :: post → Blk X K E B' (up x (G pre)) (RR pre) bd { nx := Pst K E B' (G (pre ++ [x])) (RR (pre ++ [x])), rt := D.rt, bk := Z, ct := Pst K E B' (G (pre ++ [x])) (RR (pre ++ [x])) })
    (hr : Blk X K E B (G xs) (RR xs) rest D) (hs : ∀ i x, foldedSetIterable iter (X i).env x = pure x := by exact fun _ _ => rfl) (hcm : ∀ i, (X i).calm = true := by exact fun _ => rfl) : Blk X K E B Γ R (.For tg iter bd [] pos :: rest) D := by
  obtain ⟨wi, w1, w2⟩ := hi
  obtain ⟨g, t1, t2⟩ := htg
  obtain ⟨u, u1, u2⟩ := hr
  have hb' := fun (n : { q : List α × α × List α × Hp × (L2.St → Hp → Prop) // xs = q.1 ++ q.2.1 :: q.2.2.1 }) => Classical.choose_spec (hb n.1.1 n.1.2.1 n.1.2.2.1 n.1.2.2.2.1 n.1.2.2.2.2 n.2)
  refine ⟨tSeq (tFor wi g _) u, fun i => pss_cons (ps_for (hp i) (hcm i) (w1 i) (t1 i) (pss_any fun n => (hb' n).1 i) (hs i)) (u1 i), fun S σ H b q => ?_⟩
  refine w2 S σ H _ q fun J S1 H1 e1 q1 hJ => ?_
  refine ⟨fun n m σ H => m = xs.length - n ∧ n ≤ xs.length ∧ ∃ S', Same S1 S' ∧ SR K E (G (xs.take n)) (RR (xs.take n)) S' σ H, ⟨xs.length, by simp, Nat.zero_le _, S1, Same.refl _, h0 S1 σ H1 q1⟩, ?_⟩
  rintro n m σ2 H2 ⟨rfl, hn, S2, e2, q2⟩
  obtain ⟨g1, g2⟩ := hJ n _ _ S2 σ2 H2 e2 q2 (hC _)
  by_cases hlt : n < xs.length
  · have hx : xs[n]? = some xs[n] := List.getElem?_eq_getElem hlt
    have hsplit : xs = xs.take n ++ xs[n] :: xs.drop (n + 1) := by rw [← List.drop_eq_getElem_cons hlt, List.take_append_drop]
    have htake : xs.take (n + 1) = xs.take n ++ [xs[n]] := by rw [List.take_succ, hx]; rfl
    obtain ⟨go, hy⟩ := g1 (it xs[n]) (by rw [List.getElem?_map, hx]; rfl)
    refine .inr ⟨go, Pst K E S2 (G (xs.take n ++ [xs[n]])) (RR (xs.take n ++ [xs[n]])), fun σ' H' ⟨S', e', q'⟩ => ⟨xs.length - (n + 1), by omega, rfl, hlt, S', e2.trans e', by rw [htake]; exact q'⟩, fun x H' hx' => ?_⟩
    obtain ⟨S3, e3, q3, r3⟩ := hy x H' hx'
    refine t2 xs[n] _ _ S3 σ2 H' x _ q3 r3 fun σ4 q4 _ _ => ?_
    exact ⟨⟨(xs.take n, xs[n], xs.drop (n + 1), S2, u D), hsplit⟩, (hb' ⟨(xs.take n, xs[n], xs.drop (n + 1), S2, u D), hsplit⟩).2 S3 σ4 H' e3 q4⟩
  · have e : n = xs.length := by omega
    subst e
    refine .inl ⟨g2 (by rw [List.length_map]; exact Nat.le_refl _), u2 S2 σ2 H2 (b.trans (e1.trans e2)) ?_⟩
    rw [List.take_length] at q2
    exact q2

/-! ### comprehensions -/
abbrev BX (X : ι → Cx) (scope : Scope) : ι × Shared × Hp × Addr × List (Str × Addr) × List Addr → Cx := fun i => (X i.1).blk i.2.1 i.2.2.1 scope (compEnvC scope i.2.2.2.2.1 i.2.2.2.1 (X i.1).env) i.2.2.2.2.2
theorem fam_blk {scope : Scope} (F : Fam X P w K mg base A N) : Fam (BX X scope) P w K mg base A N :=
  ⟨fun i => F.fP i.1, fun i => F.fw i.1, fun i => F.fK i.1, fun i => F.fmg i.1, fun i => F.fbase i.1, fun i => F.fA i.1, fun i => F.fN i.1, F.nd⟩
/-- the slots of a block's own names forgotten -/
def wipeG : Slots → List Nat → Slots
  | Γ, [] => Γ
  | Γ, v :: vs => (wipeG Γ vs).set v none
theorem wipe_slots {S : Hp} : ∀ {Γ : Slots} {σ : L2.St} (vs : List Nat), All2 (fun (s : Option Sl) (o : Option V) => ∀ s', s = some s' → ∃ v, o = some v ∧ s'.r K S v) Γ σ → All2 (fun (s : Option Sl) (o : Option V) => ∀ s', s = some s' → ∃ v, o = some v ∧ s'.r K S v) (wipeG Γ vs) (wipe σ vs)
  | _, _, [], h => h
  | _, _, v :: vs, h => All2.set (fun s' e => nomatch e) v (wipe_slots vs h)
/-- the tests of a comprehension -/
def TsJ (X : ι → Cx) (K : PySem.W.Frag) (E : Ent) (Γ : Slots) (R : List Res) (ifs : List Expr) (k : Bool) : Prop :=
  ∃ t : TT, (∀ i, PTs (X i) ifs t) ∧ ∀ S σ H (Q : Bool → Hp → Prop), SR K E Γ R S σ H → KontB K E Γ R σ S k Q → t σ H Q
theorem ts_nil : TsJ X K E Γ R [] true := ⟨tYes, fun _ => pts_nil, fun S σ H Q q k => k S H (Same.refl _) q⟩
theorem ts_one {k : Bool} (h : TeJ X K E Γ R c k) : TsJ X K E Γ R [c] k := let ⟨t, h1, h2⟩ := h; ⟨t, fun i => pts_one (h1 i), h2⟩
theorem pts_any {Y : Cx} {ifs : List Expr} {ν : Type} {u : ν → TT} (h : ∀ n, PTs Y ifs (u n)) : PTs Y ifs (fun σ H Q => ∃ n, u n σ H Q) := ⟨fun pins s σ H Q I ⟨n, q⟩ => (h n).run pins s σ H Q I q⟩
theorem pe_any {Y : Cx} {ν : Type} {u : ν → TE} (h : ∀ n, PE Y e (u n)) : PE Y e (fun σ H Q => ∃ n, u n σ H Q) := ⟨fun pins s σ H Q I ⟨n, q⟩ => (h n).run pins s σ H Q I q⟩
theorem wipe_eq {σ σ' : L2.St} {vs us : List Nat} (h : ∀ j, j ∉ us → σ'[j]? = (wipe σ vs)[j]?) (hl : σ'.length = (wipe σ vs).length) (hu : ∀ j ∈ us, j ∈ vs) : wipe σ' vs = wipe σ vs := by
  have key : ∀ (vs : List Nat) (σ : L2.St) (j : Nat), (wipe σ vs)[j]? = if j ∈ vs ∧ j < σ.length then some none else σ[j]? := by
    intro vs
    induction vs with
    | nil => intro σ j; simp [wipe]
    | cons v vs ih =>
      intro σ j
      show ((wipe σ vs).set v none)[j]? = _
      by_cases e : v = j
      · subst e
        by_cases hv : v < σ.length
        · rw [List.getElem?_set_self (by rw [wipe_length]; exact hv), if_pos ⟨List.mem_cons_self, hv⟩]
        · rw [if_neg (fun z => hv z.2), List.getElem?_eq_none (by rw [List.length_set, wipe_length]; omega), List.getElem?_eq_none (by omega)]
      · rw [List.getElem?_set_ne e, ih]
        have : (j ∈ v :: vs) ↔ j ∈ vs := by simp [Ne.symm e]
        simp only [this]
  apply List.ext_getElem?
  intro j
  rw [key, key]
  rw [wipe_length] at hl
  by_cases hj : j ∈ vs
  · by_cases hlt : j < σ.length
    · rw [if_pos ⟨hj, by omega⟩, if_pos ⟨hj, hlt⟩]
    · rw [if_neg (fun z => hlt (by omega)), if_neg (fun z => hlt z.2), List.getElem?_eq_none (by omega), List.getElem?_eq_none (by omega)]
  · rw [if_neg (fun z => hj z.1), if_neg (fun z => hj z.1), h j fun z => hj (hu j z), key, if_neg fun z => hj z.1]
theorem ev_lc {α : Type} {tg iter elt : Expr} {ifs : List Expr} {scope : Scope} {own : List (Str × Nat)} {C : List Res → Prop} {us : List Nat} {xs : List α} {it : α → Sl} {up : α → Slots → Slots} {k : α → Bool} {d : α → PyData} {se : α → Sl}
    (F : Fam X P w K mg base A N) (hi : ItJ X K E Γ R tg iter R1 (xs.map it) C) (ok : ∀ i, BlkOk (X i).N (X i).env.scope scope own)
    (htg : TgA (BX X scope) K E tg it up us) (hu : ∀ j ∈ us, j ∈ own.map (·.2))
    (hC : ∀ D acc, C (R1 ++ [rL D acc])) (ht : ∀ D acc, ∀ x ∈ xs, TsJ (BX X scope) K E (up x (wipeG Γ (own.map (·.2)))) (R1 ++ [rL D acc]) ifs (k x))
    (he : ∀ D acc, ∀ x ∈ xs, k x = true → EvJ (BX X scope) K E (up x (wipeG Γ (own.map (·.2)))) (R1 ++ [rL D acc]) elt (R1 ++ [rL D acc]) (se x)) (hd : ∀ x ∈ xs, k x = true → ∀ K S v, (se x).r K S v → Da K S v (d x))
    (hz : xs.length ≤ 1000000) (hs : ∀ i x, foldedSetIterable iter (X i).env x = pure x := by exact fun _ _ => rfl) (hcm : ∀ i, (X i).calm = true := by exact fun _ => rfl) :
    EvL X K E Γ R (.ListComp elt [⟨tg, iter, ifs, 0⟩] scope pos) R1 ((xs.filter k).map d) := by
  obtain ⟨wi, w1, w2⟩ := hi
  obtain ⟨g, t1, t2⟩ := htg
  have ht' := fun (n : { q : Addr × List PyData × α // q.2.2 ∈ xs }) => Classical.choose_spec (ht n.1.1 n.1.2.1 n.1.2.2 n.2)
  have he' := fun (n : { q : Addr × List PyData × α // q.2.2 ∈ xs ∧ k q.2.2 = true }) => Classical.choose_spec (he n.1.1 n.1.2.1 n.1.2.2 n.2.1 n.2.2)
  refine ⟨tLc wi g _ _ (own.map (·.2)), fun i => pe_lc (hcm i) (by rw [F.fN i]; exact F.nd) (w1 i) (ok i) (fun s H C cl fp => t1 ⟨i, s, H, C, cl, fp⟩) (fun s H C cl fp => pts_any fun n => (ht' n).1 ⟨i, s, H, C, cl, fp⟩) (fun s H C cl fp => pe_any fun n => (he' n).1 ⟨i, s, H, C, cl, fp⟩) (hs i), fun S σ H Q q kk => ?_⟩
  refine w2 S σ H _ q fun J S1 H1 e1 q1 hJ D hD => ?_
  refine ⟨fun n m H => m = xs.length - n ∧ n ≤ xs.length ∧ ∃ S', Same S1 S' ∧ SR K E Γ (R1 ++ [rL D (((xs.take n).filter k).map d)]) S' σ H, ⟨xs.length, by simp, Nat.zero_le _, S1, Same.refl _, q1.mine hD ⟨[], rfl, .nil⟩⟩, ?_⟩
  rintro n m H2 ⟨rfl, hn, S2, e2, q2⟩
  obtain ⟨g1, g2⟩ := hJ n _ _ S2 σ H2 e2 q2 (hC _ _)
  by_cases hlt : n < xs.length
  · have hx : xs[n]? = some xs[n] := List.getElem?_eq_getElem hlt
    have hm : xs[n] ∈ xs := List.getElem_mem hlt
    have htake : xs.take (n + 1) = xs.take n ++ [xs[n]] := by rw [List.take_succ, hx]; rfl
    obtain ⟨go, hy⟩ := g1 (it xs[n]) (by rw [List.getElem?_map, hx]; rfl)
    refine .inr ⟨go, fun H' => ∃ S', Same S1 S' ∧ SR K E Γ (R1 ++ [rL D (((xs.take (n + 1)).filter k).map d)]) S' σ H', fun H' h' => ⟨xs.length - (n + 1), by omega, rfl, hlt, h'⟩, fun x H' hx' => ?_⟩
    obtain ⟨S3, e3, q3, r3⟩ := hy x H' hx'
    apply t2 xs[n] _ _ S3 (wipe σ (own.map (·.2))) H' x _ (q3.reslot (wipe_slots _ q3.slots)) r3
    intro σ4 q4 o4 l4
    refine ⟨wipe_eq o4 l4 hu, ?_⟩
    refine ⟨⟨(D, ((xs.take n).filter k).map d, xs[n]), hm⟩, (ht' ⟨(D, ((xs.take n).filter k).map d, xs[n]), hm⟩).2 S3 σ4 H' _ q4 fun S5 H5 e5 q5 => ?_⟩
    have q5' : SR K E Γ (R1 ++ [rL D (((xs.take n).filter k).map d)]) S5 σ H5 := q5.reslot (slots_mono e5 q3.slots)
    cases hk : k xs[n] with
    | false =>
      refine iteF ⟨S5, (e2.trans e3).trans e5, ?_⟩
      rw [htake, List.filter_append, List.filter_cons, if_neg (by rw [hk]; exact Bool.false_ne_true), List.filter_nil, List.append_nil]
      exact q5'
    | true =>
      refine iteT ⟨⟨(D, ((xs.take n).filter k).map d, xs[n]), hm, hk⟩, (he' ⟨(D, ((xs.take n).filter k).map d, xs[n]), hm, hk⟩).2 S5 σ4 H5 _ q5 fun y S6 H6 e6 q6 r6 => ?_⟩
      have q6' : SR K E Γ (R1 ++ [rL D (((xs.take n).filter k).map d)]) S6 σ H6 := q6.reslot (slots_mono e6 q5'.slots)
      obtain ⟨O, ⟨acc, eO, hacc⟩, sO⟩ := q6'.res R1.length get_last
      subst eO
      refine ⟨acc, sO D _ hOne_same, ?_, S6, ((e2.trans e3).trans e5).trans e6, ?_⟩
      · rw [daAll_len hacc, List.length_map]
        have h1 := List.length_filter_le k (xs.take n)
        rw [List.length_take] at h1
        have : (sizeLine : Nat) = 16777216 := sizeLine_eq
        omega
      · rw [htake, List.filter_append, List.filter_cons, if_pos (by rw [hk]), List.filter_nil, List.map_append]
        have := q6'.putL R1.length get_last (daAll_app hacc (.cons (hd _ hm hk K S6 y r6) .nil))
        rw [set_last] at this
        exact this
  · have e : n = xs.length := by omega
    subst e
    rw [List.take_length] at q2
    exact .inl ⟨g2 (by rw [List.length_map]; exact Nat.le_refl _), kk D _ S2 H2 (e1.trans e2) q2 rfl⟩
end
end SL

/-! defs: their promises, their calls -/
namespace SL
open PySem PySem.Spec PyProof.Rows L2
/-- a def's promise: under pre, from arguments of which as is said and the cells R of one's own, a result of which res is said and the cells R' -/
def spJ (K : PySem.W.Frag) {θ : Type} {ν : θ → Type} (pre : θ → Prop) (as : θ → List Sl) (R : θ → List Res) (R' : ∀ i, ν i → List Res) (res : ∀ i, ν i → Sl) : Sp := fun vs H Q _ =>
  ∃ (i : θ) (S0 : Hp) (Os : List Hp), pre i ∧ Same S0 H ∧ All2 (fun (s : Sl) v => s.r K S0 v) (as i) vs ∧ Own K S0 H (R i) Os ∧
    ∀ (n : ν i) v S' H' Os', (∀ a o, H a = some o → ¬ InOs Os a → H' a = some o) → Same S' H' → Same S0 S' → (∀ a, S' a ≠ none → S0 a ≠ none ∨ H a = none ∨ InOs Os a) →
      Own K S' H' (R' i n) Os' → (∀ O ∈ Os', ∀ a, O a ≠ none → InOs Os a ∨ H a = none) → (res i n).r K S' v → Q v H'
/-- a def that may be called -/
structure Cal (P : Program) (w : World) (K : PySem.W.Frag) (mg : Str → Option Value) (base : Heap) (A : Around) (f : Str) (ps : List Str) (sp : Sp) : Prop where
  ex : ∃ (CX : CXT) (k : Nat) (fa : Addr) (fd : FuncData), FnOk P w K mg base CX k fa fd ps sp ∧ Room k A ∧ mg f = some (.ref fa) ∧ PySem.W.keepIn K (.ref fa) = true ∧ Binds K fd ps [] ∧ ∀ Y : Cx, Y.prog = P → Y.w = w → Passes CX Y E0
section
variable {ι : Type} {X : ι → Cx} {K : PySem.W.Frag} {E : Ent} {B : Hp} {Γ Γ' : Slots} {R R' R1 R2' R3 : List Res} {a b c e : Expr} {es : List Expr} {pos p' : Pos} {s s1 s2 s3 : Sl}
  {P : Program} {w : World} {mg : Str → Option Value} {base : Heap} {A : Around} {N : List Str} {rest sts : List Stmt} {D : Ends} {S S' H H' : Hp} {σ σ' : L2.St} {f : Str} {ps : List Str}
theorem ev_callN {θ : Type} {ν : θ → Type} {pre : θ → Prop} {as : θ → List Sl} {Rn : ∀ i, ν i → List Res} {res : ∀ i, ν i → Sl} (F : Fam X P w K mg base A N) (C : Cal P w K mg base A f ps (spJ K pre as (fun _ => []) Rn res)) (i : θ) (ha : ArJ X K E Γ R (e :: es) R1 (as i)) (hpre : pre i)
    (hg : ∀ i, Gl (X i) f := by exact fun _ => rfl) (he : ∀ i, starEach (e :: es) (X i).env = (false, eval e (X i).env) :: starEach es (X i).env := by exact fun _ => rfl) (hpl : ∀ i, (backTo pos (starEach es (X i).env)).any (·.1) = false := by exact fun _ => rfl) (hdb : (f == ("__debug__" : Str)) = false := by decide) :
    EvN X K E Γ R (.Call (.Name f p') (e :: es) [] pos) (fun n => R1 ++ Rn i n) (res i) := by
  obtain ⟨CX, k, fa, fd, hF, hr, hm, hk, hb, hx⟩ := C.ex
  obtain ⟨t, a1, a2⟩ := ha
  refine ⟨tCall (spJ K pre as (fun _ => []) Rn res) [] E0 t, fun j => ?_, fun S σ H Q q kk => a2 S σ H _ q fun vs S1 H1 e1 q1 r1 => ?_⟩
  · refine pe_call (CX := CX) (k := k) (f := fa) (fd := fd) (ps := ps) (ds := []) ?_ (by rw [F.fA j]; exact hr) (hg j) (by rw [F.fmg j]; exact hm) (by rw [F.fK j]; exact hk) (by rw [F.fK j]; exact hb) .nil (hx _ (F.fP j) (F.fw j)) (a1 j) hdb (he j) (hpl j)
    rw [F.fP j, F.fw j, F.fK j, F.fmg j, F.fbase j]
    exact hF
  · rw [List.append_nil]
    refine ⟨i, S1, [], hpre, q1.sub, r1, ⟨.nil, .nil⟩, fun n v S' H' Os' hfr hsub hext hnew hown hO hres => kk n v S' H' (e1.trans hext) ?_ hres⟩
    have none_of : ∀ x, ¬ InOs [] x := fun x ⟨O, hO, _⟩ => by simp at hO
    obtain ⟨Os, ⟨b1, b2⟩, b3⟩ := q1.own
    have dis : ∀ (O : Hp), Same O H1 → (∀ x, O x ≠ none → S1 x = none) → ∀ x, O x ≠ none → S' x = none := fun O hO hS x hx' => by
      cases e2 : S' x with
      | none => rfl
      | some u =>
        rcases hnew x (by rw [e2]; exact fun z => nomatch z) with z | z | z
        · exact absurd (hS x hx') z
        · cases e3 : O x with
          | none => exact absurd e3 hx'
          | some u' => rw [hO x u' e3] at z; cases z
        · exact absurd z (none_of x)
    refine ⟨hsub, q1.ext.trans hext, fun x u e n => hfr x u (q1.fr x u e n) (none_of x), fun x hx' => ?_, ⟨Os ++ Os', ⟨(b1.imp fun ρ O hh => ⟨ρ.mono hext hh.1, fun x u e => hfr x u (hh.2.1 x u e) (none_of x), dis O hh.2.1 hh.2.2⟩).app hown.all, ?_⟩, fun O hO' x hx' => ?_⟩, slots_mono hext q1.slots⟩
    · rcases hnew x hx' with z | z | z
      · exact q1.new x z
      · by_cases n : E.A0 x
        · exact .inr (.inr n)
        · cases e0 : E.H0 x with
          | none => exact .inr (.inl rfl)
          | some u => rw [q1.fr x u e0 n] at z; cases z
      · exact absurd z (none_of x)
    · refine List.pairwise_append.mpr ⟨b2, hown.dis, fun O hO1 O' hO2 x hx' => ?_⟩
      cases e2 : O' x with
      | none => rfl
      | some u =>
        rcases hO O' hO2 x (by rw [e2]; exact fun z => nomatch z) with z | z
        · exact absurd z (none_of x)
        · obtain ⟨ρ, _, hh⟩ := all2_mem b1 hO1
          cases e3 : O x with
          | none => exact absurd e3 hx'
          | some u' => rw [hh.2.1 x u' e3] at z; cases z
    · rcases List.mem_append.mp hO' with z | z
      · exact b3 O z x hx'
      · rcases hO O z x hx' with z | z
        · exact absurd z (none_of x)
        · by_cases n : E.A0 x
          · exact .inl n
          · cases e0 : E.H0 x with
            | none => exact .inr rfl
            | some u => rw [q1.fr x u e0 n] at z; cases z
theorem ev_of_unit {Rn : Unit → List Res} {sn : Unit → Sl} (h : EvN X K E Γ R e Rn sn) : EvJ X K E Γ R e (Rn ()) (sn ()) := let ⟨t, h1, h2⟩ := h; ⟨t, h1, fun S σ H Q q k => h2 S σ H Q q fun _ => k⟩

/-! ### by the number of arguments -/
abbrev sp1 (K : PySem.W.Frag) {α : Type} (pre : α → Prop) (d1 : α → Sl) (res : α → Sl) : Sp := spJ K (θ := α) (ν := fun _ => Unit) pre (fun i => [d1 i]) (fun _ => []) (fun _ _ => []) (fun i _ => res i)
abbrev sp2 (K : PySem.W.Frag) {α β : Type} (pre : α → β → Prop) (d1 : α → Sl) (d2 : β → Sl) (res : α → β → Sl) : Sp := spJ K (θ := α × β) (ν := fun _ => Unit) (fun i => pre i.1 i.2) (fun i => [d1 i.1, d2 i.2]) (fun _ => []) (fun _ _ => []) (fun i _ => res i.1 i.2)
abbrev sp3 (K : PySem.W.Frag) {α β γ : Type} (pre : α → β → γ → Prop) (d1 : α → Sl) (d2 : β → Sl) (d3 : γ → Sl) (res : α → β → γ → Sl) : Sp :=
  spJ K (θ := α × β × γ) (ν := fun _ => Unit) (fun i => pre i.1 i.2.1 i.2.2) (fun i => [d1 i.1, d2 i.2.1, d3 i.2.2]) (fun _ => []) (fun _ _ => []) (fun i _ => res i.1 i.2.1 i.2.2)
abbrev sp4 (K : PySem.W.Frag) {α β γ δ : Type} (pre : α → β → γ → δ → Prop) (d1 : α → Sl) (d2 : β → Sl) (d3 : γ → Sl) (d4 : δ → Sl) (res : α → β → γ → δ → Sl) : Sp :=
  spJ K (θ := α × β × γ × δ) (ν := fun _ => Unit) (fun i => pre i.1 i.2.1 i.2.2.1 i.2.2.2) (fun i => [d1 i.1, d2 i.2.1, d3 i.2.2.1, d4 i.2.2.2]) (fun _ => []) (fun _ _ => []) (fun i _ => res i.1 i.2.1 i.2.2.1 i.2.2.2)
abbrev sp5 (K : PySem.W.Frag) {α β γ δ ε : Type} (pre : α → β → γ → δ → ε → Prop) (d1 : α → Sl) (d2 : β → Sl) (d3 : γ → Sl) (d4 : δ → Sl) (d5 : ε → Sl) (res : α → β → γ → δ → ε → Sl) : Sp :=
  spJ K (θ := α × β × γ × δ × ε) (ν := fun _ => Unit) (fun i => pre i.1 i.2.1 i.2.2.1 i.2.2.2.1 i.2.2.2.2) (fun i => [d1 i.1, d2 i.2.1, d3 i.2.2.1, d4 i.2.2.2.1, d5 i.2.2.2.2]) (fun _ => []) (fun _ _ => []) (fun i _ => res i.1 i.2.1 i.2.2.1 i.2.2.2.1 i.2.2.2.2)
/-- .. that hand back a new list -/
abbrev spL1 (K : PySem.W.Frag) {α : Type} (pre : α → Prop) (d1 : α → Sl) (res : α → List PyData) : Sp := spJ K (θ := α) (ν := fun _ => Addr) pre (fun i => [d1 i]) (fun _ => []) (fun i p => [rL p (res i)]) (fun _ p => sv (.ref p))
abbrev spL2 (K : PySem.W.Frag) {α β : Type} (pre : α → β → Prop) (d1 : α → Sl) (d2 : β → Sl) (res : α → β → List PyData) : Sp := spJ K (θ := α × β) (ν := fun _ => Addr) (fun i => pre i.1 i.2) (fun i => [d1 i.1, d2 i.2]) (fun _ => []) (fun i p => [rL p (res i.1 i.2)]) (fun _ p => sv (.ref p))
abbrev spL3 (K : PySem.W.Frag) {α β γ : Type} (pre : α → β → γ → Prop) (d1 : α → Sl) (d2 : β → Sl) (d3 : γ → Sl) (res : α → β → γ → List PyData) : Sp :=
  spJ K (θ := α × β × γ) (ν := fun _ => Addr) (fun i => pre i.1 i.2.1 i.2.2) (fun i => [d1 i.1, d2 i.2.1, d3 i.2.2]) (fun _ => []) (fun i p => [rL p (res i.1 i.2.1 i.2.2)]) (fun _ p => sv (.ref p))
abbrev spL4 (K : PySem.W.Frag) {α β γ δ : Type} (pre : α → β → γ → δ → Prop) (d1 : α → Sl) (d2 : β → Sl) (d3 : γ → Sl) (d4 : δ → Sl) (res : α → β → γ → δ → List PyData) : Sp :=
  spJ K (θ := α × β × γ × δ) (ν := fun _ => Addr) (fun i => pre i.1 i.2.1 i.2.2.1 i.2.2.2) (fun i => [d1 i.1, d2 i.2.1, d3 i.2.2.1, d4 i.2.2.2]) (fun _ => []) (fun i p => [rL p (res i.1 i.2.1 i.2.2.1 i.2.2.2)]) (fun _ p => sv (.ref p))
section
variable (F : Fam X P w K mg base A N) {α β γ δ ε : Type} {d1 : α → Sl} {d2 : β → Sl} {d3 : γ → Sl} {d4 : δ → Sl} {d5 : ε → Sl} {x1 : α} {x2 : β} {x3 : γ} {x4 : δ} {x5 : ε}
include F
theorem ev_call1 {pre : α → Prop} {res : α → Sl} (C : Cal P w K mg base A f ps (sp1 K pre d1 res)) (ha : ArJ X K E Γ R (e :: es) R1 [d1 x1]) (hpre : pre x1) (hg : ∀ i, Gl (X i) f := by exact fun _ => rfl) (he : ∀ i, starEach (e :: es) (X i).env = (false, eval e (X i).env) :: starEach es (X i).env := by exact fun _ => rfl) (hpl : ∀ i, (backTo pos (starEach es (X i).env)).any (·.1) = false := by exact fun _ => rfl) (hdb : (f == ("__debug__" : Str)) = false := by decide) : EvJ X K E Γ R (.Call (.Name f p') (e :: es) [] pos) R1 (res x1) := by
  have := ev_of_unit (ev_callN (p' := p') F C x1 ha hpre hg he hpl hdb)
  rw [List.append_nil] at this
  exact this
theorem ev_call2 {pre : α → β → Prop} {res : α → β → Sl} (C : Cal P w K mg base A f ps (sp2 K pre d1 d2 res)) (ha : ArJ X K E Γ R (e :: es) R1 [d1 x1, d2 x2]) (hpre : pre x1 x2) (hg : ∀ i, Gl (X i) f := by exact fun _ => rfl) (he : ∀ i, starEach (e :: es) (X i).env = (false, eval e (X i).env) :: starEach es (X i).env := by exact fun _ => rfl) (hpl : ∀ i, (backTo pos (starEach es (X i).env)).any (·.1) = false := by exact fun _ => rfl) (hdb : (f == ("__debug__" : Str)) = false := by decide) : EvJ X K E Γ R (.Call (.Name f p') (e :: es) [] pos) R1 (res x1 x2) := by
  have := ev_of_unit (ev_callN (p' := p') F C (x1, x2) ha hpre hg he hpl hdb)
  rw [List.append_nil] at this
  exact this
theorem ev_call3 {pre : α → β → γ → Prop} {res : α → β → γ → Sl} (C : Cal P w K mg base A f ps (sp3 K pre d1 d2 d3 res)) (ha : ArJ X K E Γ R (e :: es) R1 [d1 x1, d2 x2, d3 x3]) (hpre : pre x1 x2 x3) (hg : ∀ i, Gl (X i) f := by exact fun _ => rfl) (he : ∀ i, starEach (e :: es) (X i).env = (false, eval e (X i).env) :: starEach es (X i).env := by exact fun _ => rfl) (hpl : ∀ i, (backTo pos (starEach es (X i).env)).any (·.1) = false := by exact fun _ => rfl) (hdb : (f == ("__debug__" : Str)) = false := by decide) : EvJ X K E Γ R (.Call (.Name f p') (e :: es) [] pos) R1 (res x1 x2 x3) := by
  have := ev_of_unit (ev_callN (p' := p') F C (x1, x2, x3) ha hpre hg he hpl hdb)
  rw [List.append_nil] at this
  exact this
theorem ev_call4 {pre : α → β → γ → δ → Prop} {res : α → β → γ → δ → Sl} (C : Cal P w K mg base A f ps (sp4 K pre d1 d2 d3 d4 res)) (ha : ArJ X K E Γ R (e :: es) R1 [d1 x1, d2 x2, d3 x3, d4 x4]) (hpre : pre x1 x2 x3 x4) (hg : ∀ i, Gl (X i) f := by exact fun _ => rfl) (he : ∀ i, starEach (e :: es) (X i).env = (false, eval e (X i).env) :: starEach es (X i).env := by exact fun _ => rfl) (hpl : ∀ i, (backTo pos (starEach es (X i).env)).any (·.1) = false := by exact fun _ => rfl) (hdb : (f == ("__debug__" : Str)) = false := by decide) : EvJ X K E Γ R (.Call (.Name f p') (e :: es) [] pos) R1 (res x1 x2 x3 x4) := by
  have := ev_of_unit (ev_callN (p' := p') F C (x1, x2, x3, x4) ha hpre hg he hpl hdb)
  rw [List.append_nil] at this
  exact this
theorem ev_call5 {pre : α → β → γ → δ → ε → Prop} {res : α → β → γ → δ → ε → Sl} (C : Cal P w K mg base A f ps (sp5 K pre d1 d2 d3 d4 d5 res)) (ha : ArJ X K E Γ R (e :: es) R1 [d1 x1, d2 x2, d3 x3, d4 x4, d5 x5]) (hpre : pre x1 x2 x3 x4 x5) (hg : ∀ i, Gl (X i) f := by exact fun _ => rfl) (he : ∀ i, starEach (e :: es) (X i).env = (false, eval e (X i).env) :: starEach es (X i).env := by exact fun _ => rfl) (hpl : ∀ i, (backTo pos (starEach es (X i).env)).any (·.1) = false := by exact fun _ => rfl) (hdb : (f == ("__debug__" : Str)) = false := by decide) :
    EvJ X K E Γ R (.Call (.Name f p') (e :: es) [] pos) R1 (res x1 x2 x3 x4 x5) := by
  have := ev_of_unit (ev_callN (p' := p') F C (x1, x2, x3, x4, x5) ha hpre hg he hpl hdb)
  rw [List.append_nil] at this
  exact this
theorem el_call1 {pre : α → Prop} {res : α → List PyData} (C : Cal P w K mg base A f ps (spL1 K pre d1 res)) (ha : ArJ X K E Γ R (e :: es) R1 [d1 x1]) (hpre : pre x1) (hg : ∀ i, Gl (X i) f := by exact fun _ => rfl) (he : ∀ i, starEach (e :: es) (X i).env = (false, eval e (X i).env) :: starEach es (X i).env := by exact fun _ => rfl) (hpl : ∀ i, (backTo pos (starEach es (X i).env)).any (·.1) = false := by exact fun _ => rfl) (hdb : (f == ("__debug__" : Str)) = false := by decide) : EvL X K E Γ R (.Call (.Name f p') (e :: es) [] pos) R1 (res x1) := ev_callN (p' := p') F C x1 ha hpre hg he hpl hdb
theorem el_call2 {pre : α → β → Prop} {res : α → β → List PyData} (C : Cal P w K mg base A f ps (spL2 K pre d1 d2 res)) (ha : ArJ X K E Γ R (e :: es) R1 [d1 x1, d2 x2]) (hpre : pre x1 x2) (hg : ∀ i, Gl (X i) f := by exact fun _ => rfl) (he : ∀ i, starEach (e :: es) (X i).env = (false, eval e (X i).env) :: starEach es (X i).env := by exact fun _ => rfl) (hpl : ∀ i, (backTo pos (starEach es (X i).env)).any (·.1) = false := by exact fun _ => rfl) (hdb : (f == ("__debug__" : Str)) = false := by decide) : EvL X K E Γ R (.Call (.Name f p') (e :: es) [] pos) R1 (res x1 x2) := ev_callN (p' := p') F C (x1, x2) ha hpre hg he hpl hdb
theorem el_call3 {pre : α → β → γ → Prop} {res : α → β → γ → List PyData} (C : Cal P w K mg base A f ps (spL3 K pre d1 d2 d3 res)) (ha : ArJ X K E Γ R (e :: es) R1 [d1 x1, d2 x2, d3 x3]) (hpre : pre x1 x2 x3) (hg : ∀ i, Gl (X i) f := by exact fun _ => rfl) (he : ∀ i, starEach (e :: es) (X i).env = (false, eval e (X i).env) :: starEach es (X i).env := by exact fun _ => rfl) (hpl : ∀ i, (backTo pos (starEach es (X i).env)).any (·.1) = false := by exact fun _ => rfl) (hdb : (f == ("__debug__" : Str)) = false := by decide) : EvL X K E Γ R (.Call (.Name f p') (e :: es) [] pos) R1 (res x1 x2 x3) := ev_callN (p' := p') F C (x1, x2, x3) ha hpre hg he hpl hdb
theorem el_call4 {pre : α → β → γ → δ → Prop} {res : α → β → γ → δ → List PyData} (C : Cal P w K mg base A f ps (spL4 K pre d1 d2 d3 d4 res)) (ha : ArJ X K E Γ R (e :: es) R1 [d1 x1, d2 x2, d3 x3, d4 x4]) (hpre : pre x1 x2 x3 x4) (hg : ∀ i, Gl (X i) f := by exact fun _ => rfl) (he : ∀ i, starEach (e :: es) (X i).env = (false, eval e (X i).env) :: starEach es (X i).env := by exact fun _ => rfl) (hpl : ∀ i, (backTo pos (starEach es (X i).env)).any (·.1) = false := by exact fun _ => rfl) (hdb : (f == ("__debug__" : Str)) = false := by decide) :
    EvL X K E Γ R (.Call (.Name f p') (e :: es) [] pos) R1 (res x1 x2 x3 x4) := ev_callN (p' := p') F C (x1, x2, x3, x4) ha hpre hg he hpl hdb
end

/-! ### a def's body -/
/-- the context of a def's body that lets nothing out -/
abbrev FX (P : Program) (w : World) (K : PySem.W.Frag) (mg : Str → Option Value) (base : Heap) (N : List Str) (qual : Str) (st : Stmt) (f : Addr) (cdv : Value) (A : Around) (outer : List Env) (s : Shared) (H : Hp) (E : XK) : Unit → Cx :=
  fun _ => (cxOf CX0 P w K mg base N qual (defScope st) f cdv A outer s H E).nox
theorem fam_fx {qual : Str} {st : Stmt} {f : Addr} {cdv : Value} {A : Around} {outer : List Env} {s : Shared} {H : Hp} {E : XK} {ps : List Str} (S : FnScope N ps (defScope st)) : Fam (FX P w K mg base N qual st f cdv A outer s H E) P w K mg base (A.deeper (envOfC qual (defScope st) s.heap.objs.size f cdv)) N :=
  ⟨fun _ => rfl, fun _ => rfl, fun _ => rfl, fun _ => rfl, fun _ => rfl, fun _ => rfl, fun _ => rfl, S.nd⟩
theorem replicate_slots {S : Hp} : ∀ n : Nat, All2 (fun (s : Option Sl) (o : Option V) => ∀ s', s = some s' → ∃ v, o = some v ∧ s'.r K S v) (List.replicate n none) (List.replicate n none)
  | 0 => .nil
  | n + 1 => .cons (fun s' e => nomatch e) (replicate_slots n)
theorem slots_args {S : Hp} : ∀ {ss : List Sl} {vs : List V}, All2 (fun (s : Sl) v => s.r K S v) ss vs → All2 (fun (s : Option Sl) (o : Option V) => ∀ s', s = some s' → ∃ v, o = some v ∧ s'.r K S v) (ss.map some) (vs.map some)
  | _, _, .nil => .nil
  | _, _, .cons h t => .cons (fun s' e => ⟨_, rfl, by rw [← Option.some.inj e]; exact h⟩) (slots_args t)
/-- what a def's return asks: RetOk -/
def RetOk (K : PySem.W.Frag) (E : Ent) {ν : Type} (R' : ν → List Res) (res : ν → Sl) (Q : VK) : Prop := ∀ n Γ S σ H v, SR K E Γ (R' n) S σ H → (res n).r K S v → Q v H
theorem fn_ok {θ : Type} {ν : θ → Type} {pre : θ → Prop} {as : θ → List Sl} {Rs : θ → List Res} {Rn : ∀ i, ν i → List Res} {res : ∀ i, ν i → Sl} {x qual : Str} {st : Stmt} {f : Addr} {fd : FuncData} {k : Nat} (F : Fun K x qual st f fd) (S : FnScope N ps (defScope st)) (hlen : ∀ i, (as i).length = ps.length)
    (hb : ∀ (i : θ) (cdv : Value) (A : Around) (outer : List Env) (s : Shared) (H S0 : Hp) (A0 : Addr → Prop) (E : XK) (Q : VK), Room k (A.deeper (envOfC qual (defScope st) s.heap.objs.size f cdv)) → pre i → RetOk K ⟨H, S0, A0⟩ (Rn i) (res i) Q →
      Blk (FX P w K mg base N qual st f cdv A outer s H E) K ⟨H, S0, A0⟩ S0 ((as i).map some ++ List.replicate (N.length - (as i).length) none) (Rs i) (defBody st) { nx := fun _ H' => Q .non H', rt := Q }) :
    FnOk P w K mg base CX0 (k + 1) f fd ps (spJ K pre as Rs Rn res) := by
  refine F.ok S (fun vs H Q E ⟨i, S0, Os, h1, h2, h3, h4, h5⟩ => by rw [← h3.len]; exact hlen i) (fun cdv A outer s H vs Q E hr ⟨i, S0, Os, h1, h2, h3, h4, h5⟩ => ?_)
  obtain ⟨t, t1, t2⟩ := hb i cdv A outer s H S0 (InOs Os) E Q hr h1 (fun n Γ S σ H' v q r => by
    obtain ⟨Os', g1, g2⟩ := q.own
    exact h5 n v S H' Os' q.fr q.sub q.ext q.new g1 (fun O hO a ha => g2 O hO a ha) r)
  refine ⟨t, t1 (), t2 S0 _ H (Same.refl _) ⟨h2, Same.refl _, fun _ _ e _ => e, fun a ha => .inl ha, ⟨Os, h4, fun O hO a ha => .inl ⟨O, hO, ha⟩⟩, ?_⟩⟩
  unfold L2.start
  rw [h3.len]
  exact (slots_args h3).app (replicate_slots _)
theorem ret_j {ν : Type} {Rn : ν → List Res} {res : ν → Sl} {Q : VK} (hq : RetOk K E Rn res Q) (n : ν) (h1 : ∀ S σ H, SR K E Γ R1 S σ H → SR K E Γ (Rn n) S σ H) (h2 : ∀ S v, s.r K S v → (res n).r K S v) : ∀ S σ H v, SR K E Γ R1 S σ H → s.r K S v → Q v H :=
  fun S σ H v q r => hq n Γ S σ H v (h1 S σ H q) (h2 S v r)
end
end SL

/-! more rules -/
namespace SL
open PySem PySem.Spec PyProof.Rows L2
abbrev dI (i : Int) : Sl := sv (.int i)
abbrev dS (i : Str) : Sl := sv (.str i)
abbrev dB (i : Bool) : Sl := sv (.bl i)
abbrev dN : Sl := sv .non
abbrev dL (ds : List PyData) : Sl := sd (.list ds)
def dint : PyData → Int
  | .int i => i
  | _ => 0
def dstr : PyData → Str
  | .str s => s
  | _ => Str.empty
def dbool : PyData → Bool
  | .bool b => b
  | _ => false
def isI : PyData → Bool
  | .int _ => true
  | _ => false
def isS : PyData → Bool
  | .str _ => true
  | _ => false
def isB : PyData → Bool
  | .bool _ => true
  | _ => false
section
variable {ι : Type} {X : ι → Cx} {K : PySem.W.Frag} {E : Ent} {B : Hp} {Γ Γ' : Slots} {R R' R1 R2' R3 : List Res} {a b c e o : Expr} {es : List Expr} {pos p' : Pos} {s s1 s2 s3 : Sl}
  {P : Program} {w : World} {mg : Str → Option Value} {base : Heap} {A : Around} {N : List Str} {rest sts : List Stmt} {D : Ends} {S S' H H' : Hp} {σ σ' : L2.St} {f : Str} {ps : List Str} {i j : Int} {x y : Str}
theorem ev_neg (h : EvJ X K E Γ R a R1 (dI i)) : EvJ X K E Γ R (.UnaryOp .USub a pos) R1 (dI (-i)) := by
  obtain ⟨t, h1, h2⟩ := h
  exact ⟨tUn (rU fun i => .int (-i)) t, fun i => pe_un un_neg (h1 i), fun S σ H Q q k => h2 S σ H _ q fun v S1 H1 e1 q1 r1 => ⟨i, r1, k _ S1 H1 e1 q1 rfl⟩⟩
/-! ### an item at an open place -/
theorem atI_open {α : Type} {xs : List α} {d : α} (h0 : 0 ≤ i) (h1 : i < xs.length) : atI xs i = some (xs.getD i.toNat d) := by
  have e : ((i.toNat : Nat) : Int) = i := Int.toNat_of_nonneg h0
  have h2 : i.toNat < xs.length := by omega
  have h := atI_nat (xs := xs) (j := i.toNat) (v := xs.getD i.toNat d) (by rw [List.getD_eq_getElem?_getD, List.getElem?_eq_getElem h2]; rfl)
  rw [e] at h
  exact h
theorem getD_map {α β : Type} {f : α → β} {xs : List α} {n : Nat} {d : α} {d' : β} (h : n < xs.length) : (xs.map f).getD n d' = f (xs.getD n d) := by
  rw [List.getD_eq_getElem?_getD, List.getD_eq_getElem?_getD, List.getElem?_map, List.getElem?_eq_getElem h]
  rfl
theorem dint_at {ds : List PyData} (h : ds.all isI = true) (h0 : 0 ≤ i) (h1 : i < ds.length) : atI ds i = some (.int ((ds.map dint).getD i.toNat 0)) := by
  rw [atI_open (d := .none) h0 h1, getD_map (d := .none) (by omega)]
  have := List.all_eq_true.mp h (ds.getD i.toNat .none) (by rw [List.getD_eq_getElem?_getD, List.getElem?_eq_getElem (show i.toNat < ds.length by omega)]; exact List.getElem_mem _)
  generalize ds.getD i.toNat .none = z at *
  cases z <;> first | rfl | cases this
theorem dstr_at {ds : List PyData} (h : ds.all isS = true) (h0 : 0 ≤ i) (h1 : i < ds.length) : atI ds i = some (.str ((ds.map dstr).getD i.toNat Str.empty)) := by
  rw [atI_open (d := .none) h0 h1, getD_map (d := .none) (by omega)]
  have := List.all_eq_true.mp h (ds.getD i.toNat .none) (by rw [List.getD_eq_getElem?_getD, List.getElem?_eq_getElem (show i.toNat < ds.length by omega)]; exact List.getElem_mem _)
  generalize ds.getD i.toNat .none = z at *
  cases z <;> first | rfl | cases this
theorem ix_lstI (F : Fam X P w K mg base A N) {n : Int} {ds : List PyData} (h : LV K R s1 ds) (hi : atI ds i = some (.int n)) : IxJ X K E R s1 (dI i) (dI n) := ix_lst F h hi
theorem ix_lstS (F : Fam X P w K mg base A N) {ds : List PyData} (h : LV K R s1 ds) (hi : atI ds i = some (.str x)) : IxJ X K E R s1 (dI i) (dS x) := ix_lst F h hi
theorem ix_lstB (F : Fam X P w K mg base A N) {k : Bool} {ds : List PyData} (h : LV K R s1 ds) (hi : atI ds i = some (.bool k)) : IxJ X K E R s1 (dI i) (dB k) := ix_lst F h hi
theorem ix_lstT (F : Fam X P w K mg base A N) {ts : List PyData} {ds : List PyData} (h : LV K R s1 ds) (hi : atI ds i = some (.tuple ts)) : IxJ X K E R s1 (dI i) (sd (.tuple ts)) := ix_lst F h hi
theorem ix_lstL (F : Fam X P w K mg base A N) {ts : List PyData} {ds : List PyData} (h : LV K R s1 ds) (hi : atI ds i = some (.list ts)) : IxJ X K E R s1 (dI i) (sd (.list ts)) := ix_lst F h hi
/-- a menu of ints, of texts -/
theorem ix_menuI (F : Fam X P w K mg base A N) {ds : List PyData} (h : LV K R s1 ds) (ha : ds.all isI = true) (h0 : 0 ≤ i) (h1 : i < ds.length) : IxJ X K E R s1 (dI i) (dI ((ds.map dint).getD i.toNat 0)) := ix_lst F h (dint_at ha h0 h1)
theorem ix_menuS (F : Fam X P w K mg base A N) {ds : List PyData} (h : LV K R s1 ds) (ha : ds.all isS = true) (h0 : 0 ≤ i) (h1 : i < ds.length) : IxJ X K E R s1 (dI i) (dS ((ds.map dstr).getD i.toNat Str.empty)) := ix_lst F h (dstr_at ha h0 h1)
/-- of a list that is a map -/
theorem ix_mapped (F : Fam X P w K mg base A N) {α : Type} {g : α → PyData} {xs : List α} {d : α} (h : LV K R s1 (xs.map g)) (h0 : 0 ≤ i) (h1 : i < xs.length) : IxJ X K E R s1 (dI i) (sl (g (xs.getD i.toNat d))) :=
  ix_lst F h (by rw [atI_open (d := .none) h0 (by rw [List.length_map]; exact h1), getD_map (d := d) (by omega)])
theorem ix_tplI (F : Fam X P w K mg base A N) {n : Int} {ds : List PyData} (h : TV K R s1 ds) (hi : atI ds i = some (.int n)) : IxJ X K E R s1 (dI i) (dI n) := ix_tpl F h hi
theorem ix_tplS (F : Fam X P w K mg base A N) {ds : List PyData} (h : TV K R s1 ds) (hi : atI ds i = some (.str x)) : IxJ X K E R s1 (dI i) (dS x) := ix_tpl F h hi
theorem ix_tplB (F : Fam X P w K mg base A N) {k : Bool} {ds : List PyData} (h : TV K R s1 ds) (hi : atI ds i = some (.bool k)) : IxJ X K E R s1 (dI i) (dB k) := ix_tpl F h hi
/-- one sign of a text at an open place -/
theorem ix_sign (hz : x.length ≤ sizeLine) (h0 : 0 ≤ i) (h1 : i < x.length) : IxJ X K E R (dS x) (dI i) (dS ⟨#[x.cps.toList.getD i.toNat 0]⟩) := ix_txt hz (atI_open h0 (by rw [Array.length_toList]; exact h1))

/-! ### built-ins -/
theorem cl_max2 (F : Fam X P w K mg base A N) (hcm : ∀ i, (X i).calm = true := by exact fun _ => rfl) : ClJ X K E (.builtin "max") R [dI i, dI j] (dI (max i j)) :=
  ⟨_, fun n => call_max2 (hcm n), fun Γ S σ H vs Q q r k => by
    obtain ⟨v, u, rfl, r1, r2⟩ := all2_two r
    cases (show v = .int i from r1)
    cases (show u = .int j from r2)
    refine ⟨i, j, rfl, k _ S H (Same.refl _) q ?_⟩
    show V.int (if j > i then j else i) = V.int (max i j)
    congr 1
    omega⟩
theorem cl_min2 (F : Fam X P w K mg base A N) (hcm : ∀ i, (X i).calm = true := by exact fun _ => rfl) : ClJ X K E (.builtin "min") R [dI i, dI j] (dI (min i j)) :=
  ⟨_, fun n => call_min2 (hcm n), fun Γ S σ H vs Q q r k => by
    obtain ⟨v, u, rfl, r1, r2⟩ := all2_two r
    cases (show v = .int i from r1)
    cases (show u = .int j from r2)
    refine ⟨i, j, rfl, k _ S H (Same.refl _) q ?_⟩
    show V.int (if j < i then j else i) = V.int (min i j)
    congr 1
    omega⟩
theorem cl_intB {k : Bool} : ClJ X K E (.type "int") R [dB k] (dI (if k then 1 else 0)) :=
  ⟨_, fun n => call_int1, fun Γ S σ H vs Q q r k' => by
    obtain ⟨v, rfl, r1⟩ := all2_one r
    cases (show v = .bl k from r1)
    exact .inr ⟨k, rfl, k' _ S H (Same.refl _) q rfl⟩⟩
theorem cl_str (h : i.natAbs.log2 < 1920) : ClJ X K E (.type "str") R [dI i] (dS (toString i)) :=
  ⟨_, fun n => call_str_int, fun Γ S σ H vs Q q r k' => by
    obtain ⟨v, rfl, r1⟩ := all2_one r
    cases (show v = .int i from r1)
    exact ⟨i, rfl, h, k' _ S H (Same.refl _) q rfl⟩⟩
theorem cl_intS {n : Int} (h : PySem.intText? x = some n) (hl : x.length ≤ 640) : ClJ X K E (.type "int") R [dS x] (dI n) :=
  ⟨_, fun n => call_int_str, fun Γ S σ H vs Q q r k' => by
    obtain ⟨v, rfl, r1⟩ := all2_one r
    cases (show v = .str x from r1)
    exact ⟨x, n, rfl, h, hl, k' _ S H (Same.refl _) q rfl⟩⟩
theorem da_ints : ∀ {ds : List PyData} {vs : List V}, ds.all isI = true → DaAll K S vs ds → vs = (ds.map dint).map V.int
  | _, _, _, .nil => rfl
  | _, _, h, .cons g t => by
    obtain ⟨h1, h2⟩ := Bool.and_eq_true_iff.mp (show (_ && _) = true from h)
    rw [da_ints h2 t]
    cases g <;> first | rfl | cases h1
theorem da_strs : ∀ {ds : List PyData} {vs : List V}, ds.all isS = true → DaAll K S vs ds → vs = (ds.map dstr).map V.str
  | _, _, _, .nil => rfl
  | _, _, h, .cons g t => by
    obtain ⟨h1, h2⟩ := Bool.and_eq_true_iff.mp (show (_ && _) = true from h)
    rw [da_strs h2 t]
    cases g <;> first | rfl | cases h1
theorem da_bools : ∀ {ds : List PyData} {vs : List V}, ds.all isB = true → DaAll K S vs ds → vs = (ds.map dbool).map V.bl
  | _, _, _, .nil => rfl
  | _, _, h, .cons g t => by
    obtain ⟨h1, h2⟩ := Bool.and_eq_true_iff.mp (show (_ && _) = true from h)
    rw [da_bools h2 t]
    cases g <;> first | rfl | cases h1
theorem da_of_ints (ns : List Int) : DaAll K S (ns.map V.int) (ns.map PyData.int) := by
  induction ns with
  | nil => exact .nil
  | cons n ns ih => exact .cons (.int n) ih
theorem da_of_strs (ns : List Str) : DaAll K S (ns.map V.str) (ns.map PyData.str) := by
  induction ns with
  | nil => exact .nil
  | cons n ns ih => exact .cons (.str n) ih
theorem cl_sum (F : Fam X P w K mg base A N) {ds : List PyData} (h : LV K R s1 ds) (ha : ds.all isI = true) (hcm : ∀ i, (X i).calm = true := by exact fun _ => rfl) : ClJ X K E (.builtin "sum") R [s1] (dI ((ds.map dint).sum)) :=
  ⟨rSum K, fun n => by rw [← F.fK n]; exact cr_sum (hcm n), fun Γ S σ H vs Q q r k => by
    obtain ⟨v, rfl, r1⟩ := all2_one r
    obtain ⟨p, us, rfl, h1, h2⟩ := h E Γ S σ H v q r1
    rw [da_ints ha h2] at h1
    exact ⟨p, _, rfl, SqL.of h1, k _ S H (Same.refl _) q rfl⟩⟩
theorem cl_all (F : Fam X P w K mg base A N) {ds : List PyData} (h : LV K R s1 ds) (ha : ds.all isB = true) (hcm : ∀ i, (X i).calm = true := by exact fun _ => rfl) : ClJ X K E (.builtin "all") R [s1] (dB ((ds.map dbool).all id)) :=
  ⟨rAll K, fun n => by rw [← F.fK n]; exact cr_all (hcm n), fun Γ S σ H vs Q q r k => by
    obtain ⟨v, rfl, r1⟩ := all2_one r
    obtain ⟨p, us, rfl, h1, h2⟩ := h E Γ S σ H v q r1
    rw [da_bools ha h2] at h1
    exact ⟨p, _, rfl, SqL.of h1, k _ S H (Same.refl _) q rfl⟩⟩
/-- list(xs): a new one -/
theorem cl_list (F : Fam X P w K mg base A N) {ds : List PyData} (h : LV K R s1 ds) : ClN X K E (.type "list") R [s1] (fun p : Addr => R ++ [rL p ds]) (fun p => sv (.ref p)) :=
  ⟨fun xs H Q => ∃ p ys, xs = [.ref p] ∧ (SqL K H p ys ∨ SqT K H p ys) ∧ ∀ l, H l = none → Q (.ref l) (upd H l (.lst ys)), fun n => by rw [← F.fK n]; exact call_list_of, fun Γ S σ H vs Q q r k => by
    obtain ⟨v, rfl, r1⟩ := all2_one r
    obtain ⟨p, us, rfl, h1, h2⟩ := h E Γ S σ H v q r1
    exact ⟨p, us, rfl, .inl (SqL.of h1), fun l hl => k l _ S _ (Same.refl _) (q.mine hl ⟨us, rfl, h2⟩) rfl⟩⟩
/-! ### isinstance -/
/-- the built-in type of what s says -/
def TyS (K : PySem.W.Frag) (R : List Res) (s : Sl) (T : String) : Prop := ∀ (E : Ent) (Γ : Slots) (S : Hp) (σ : L2.St) (H : Hp) (v : V), SR K E Γ R S σ H → s.r K S v → TyX K H v (.type T)
theorem ty_int : TyS K R (dI i) "int" := fun E Γ S σ H v q r => by cases (show v = .int i from r); exact .base (.int i)
theorem ty_str : TyS K R (dS x) "str" := fun E Γ S σ H v q r => by cases (show v = .str x from r); exact .base (.str x)
theorem ty_bool {k : Bool} : TyS K R (dB k) "bool" := fun E Γ S σ H v q r => by cases (show v = .bl k from r); exact .base (.bl k)
theorem ty_none : TyS K R dN "NoneType" := fun E Γ S σ H v q r => by cases (show v = .non from r); exact .base .non
theorem ty_list {ds : List PyData} (h : LV K R s ds) : TyS K R s "list" := fun E Γ S σ H v q r => by
  obtain ⟨p, vs, rfl, h1, _⟩ := h E Γ S σ H v q r
  exact .base (.lst h1)
theorem sqt_ty {p : Addr} {vs : List V} (h : SqT K H p vs) : TyX K H (.ref p) (.type "tuple") := by
  rcases h with (h | ⟨o, h⟩) | ⟨o, its, n, h, hc, _⟩
  · exact .base (.tup h)
  · exact .fTuple h
  · exact .kTuple h hc
theorem ty_tup {ds : List PyData} : TyS K R (sd (.tuple ds)) "tuple" := fun E Γ S σ H v q r => by
  cases r with
  | tup h _ => exact sqt_ty (same_t q.sub h)
theorem ty_stup {ss : List Sl} : TyS K R (stup ss) "tuple" := fun E Γ S σ H v q ⟨p, vs, e, h, _⟩ => by
  subst e
  exact sqt_ty (same_t q.sub h)
theorem ev_isi (F : Fam X P w K mg base A N) {T U : String} {cls : Str} {p1 : Pos} {k : Bool} (hm : mg "isinstance" = none) (hc : mg cls = none) (hv : bootBuiltins cls = some (.type U)) (ha : EvJ X K E Γ R a R s1) (ht : TyS K R s1 T) (hk : kitB T U = some k := by decide +kernel)
    (hg : ∀ i, Gl (X i) "isinstance" := by exact fun _ => rfl) (hg2 : ∀ i, Gl (X i) cls := by exact fun _ => rfl) (he : ∀ i, starEach [a, .Name cls p1] (X i).env = (false, eval a (X i).env) :: starEach [.Name cls p1] (X i).env := by exact fun _ => rfl)
    (he2 : ∀ i, starEach [.Name cls p1] (X i).env = (false, eval (.Name cls p1) (X i).env) :: starEach [] (X i).env := by exact fun _ => rfl) (hpl : ∀ i, (backTo pos (starEach [.Name cls p1] (X i).env)).any (·.1) = false := by exact fun _ => rfl) (hn : cls ≠ "__name__" := by decide) (hd : (cls == ("__debug__" : Str)) = false := by decide) :
    EvJ X K E Γ R (.Call (.Name "isinstance" p') [a, .Name cls p1] [] pos) R (dB k) := by
  refine ev_callB F hm PyProof.Rows.boot_isinstance (ar_cons ha (ar_cons (ev_bltn F hc hv (v := .ty U) rfl hg2 hn hd) ar_nil he2) he) ⟨rIsi K, fun n => by rw [← F.fK n]; exact call_isi, fun Γ S σ H vs Q q r k' => ?_⟩ hg he hpl
  obtain ⟨v, u, rfl, r1, r2⟩ := all2_two r
  cases (show u = .ty U from r2)
  exact ⟨v, .ty U, .type T, .type U, k, rfl, .ty U, ht E Γ S σ H v q r1, kit_ty hk, k' _ S H (Same.refl _) q rfl⟩

/-! ### methods of built-in types -/
variable (X) (K) (E) in
def MtJ (T id : String) (R : List Res) (s1 : Sl) (ss : List Sl) (R' : List Res) (s3 : Sl) : Prop := ∃ r : V → List V → Hp → VK → Prop, (∀ i, MtR (X i) id r) ∧ (∀ Γ S σ H x, SR K E Γ R S σ H → s1.r K S x → tyV K T x H) ∧
  ∀ Γ S σ H x xs (Q : VK), SR K E Γ R S σ H → s1.r K S x → All2 (fun (s : Sl) v => s.r K S v) ss xs → Kont K E Γ R' σ S s3 Q → r x xs H Q
theorem ev_mt {T id : String} {name : Str} {apos : Pos} {ss : List Sl} (F : Fam X P w K mg base A N) (pa : PlainAttrs T) (slot : Slot T name id) (hty : typeOf (.builtin id) = pure (.type "method_descriptor")) (ho : EvJ X K E Γ R o R s1) (ha : ArJ X K E Γ R (e :: es) R ss) (hm : MtJ X K E T id R s1 ss R' s3)
    (hbase : ∀ i, attributeBase o name (X i).env (eval o (X i).env) = eval o (X i).env := by exact fun _ => rfl)
    (hfew : ∀ i, ((backTo pos (starEach (e :: es) (X i).env)).all (fun x => !x.1) && (backToKw pos (keywordEach [] (X i).env)).all (fun x => x.1.isSome) && decide ((e :: es).length + ([] : List Keyword).length + (if ([] : List Keyword).isEmpty then 0 else 1) < 30)) = true := by exact fun _ => rfl)
    (hline : (apos.endLine == pos.line) = true := by rfl) (hs : ∀ i, starEach (e :: es) (X i).env = (false, eval e (X i).env) :: starEach es (X i).env := by exact fun _ => rfl) (hplain : ∀ i, (backTo pos (starEach es (X i).env)).any (·.1) = false := by exact fun _ => rfl) :
    EvJ X K E Γ R (.Call (.Attribute o name apos) (e :: es) [] pos) R' s3 := by
  obtain ⟨to, o1, o2⟩ := ho
  obtain ⟨ta, a1, a2⟩ := ha
  obtain ⟨r, m1, m2, m3⟩ := hm
  refine ⟨tBM K T r to ta, fun i => by rw [← F.fK i]; exact pe_bm pa slot hty (m1 i) (o1 i) (a1 i) (hbase i) (hfew i) hline (hs i) (hplain i), fun S σ H Q q k => o2 S σ H _ q fun v S1 H1 e1 q1 r1 => ⟨m2 Γ S1 σ H1 v q1 r1, ?_⟩⟩
  exact a2 S1 σ H1 _ q1 fun vs S2 H2 e2 q2 r2 => m3 Γ S2 σ H2 v vs Q q2 (s1.mono e2 r1) r2 fun u S3 H3 e3 q3 r3 => k u S3 H3 ((e1.trans e2).trans e3) q3 r3
theorem ev_mt0 {T id : String} {name : Str} {apos : Pos} (F : Fam X P w K mg base A N) (pa : PlainAttrs T) (slot : Slot T name id) (hty : typeOf (.builtin id) = pure (.type "method_descriptor")) (ho : EvJ X K E Γ R o R s1) (hm : MtJ X K E T id R s1 [] R' s3)
    (hbase : ∀ i, attributeBase o name (X i).env (eval o (X i).env) = eval o (X i).env := by exact fun _ => rfl) (hline : (apos.endLine == pos.line) = true := by rfl) :
    EvJ X K E Γ R (.Call (.Attribute o name apos) [] [] pos) R' s3 := by
  obtain ⟨to, o1, o2⟩ := ho
  obtain ⟨r, m1, m2, m3⟩ := hm
  exact ⟨tBM0 K T r to, fun i => by rw [← F.fK i]; exact pe_bm0 pa slot hty (m1 i) (o1 i) (hbase i) hline, fun S σ H Q q k => o2 S σ H _ q fun v S1 H1 e1 q1 r1 => ⟨m2 Γ S1 σ H1 v q1 r1, m3 Γ S1 σ H1 v [] Q q1 r1 .nil fun u S3 H3 e3 q3 r3 => k u S3 H3 (e1.trans e3) q3 r3⟩⟩
theorem tyL {ds : List PyData} (h : LV K R s1 ds) {Γ : Slots} {S H : Hp} {σ : L2.St} {v : V} (q : SR K E Γ R S σ H) (r : s1.r K S v) : tyV K "list" v H := by
  obtain ⟨p, vs, rfl, h1, _⟩ := h E Γ S σ H v q r
  exact Or.inl ⟨rfl, vs, SqL.of h1⟩
theorem SR.cellL (q : SR K E Γ R S σ H) (k : Nat) {p : Addr} {ds : List PyData} (h : R[k]? = some (rL p ds)) : ∃ vs, H p = some (.lst vs) ∧ DaAll K S vs ds := by
  obtain ⟨p', vs, e, h1, h2⟩ := lv_o k h E Γ S σ H _ q rfl
  cases e
  exact ⟨vs, h1, h2⟩
/-- xs.append(v), xs one's own, of data -/
theorem ev_append (F : Fam X P w K mg base A N) (k : Nat) {p : Addr} {ds : List PyData} {d : PyData} {apos : Pos} (ho : EvJ X K E Γ R o R (sv (.ref p))) (ha : EvJ X K E Γ R e R s2) (hd : ∀ K S v, s2.r K S v → Da K S v d) (hk : R[k]? = some (rL p ds)) (hz : ds.length < 10000000)
    (hbase : ∀ i, attributeBase o "append" (X i).env (eval o (X i).env) = eval o (X i).env := by exact fun _ => rfl)
    (hfew : ∀ i, ((backTo pos (starEach [e] (X i).env)).all (fun x => !x.1) && (backToKw pos (keywordEach [] (X i).env)).all (fun x => x.1.isSome) && decide ([e].length + ([] : List Keyword).length + (if ([] : List Keyword).isEmpty then 0 else 1) < 30)) = true := by exact fun _ => rfl)
    (hline : (apos.endLine == pos.line) = true := by rfl) (hs : ∀ i, starEach [e] (X i).env = (false, eval e (X i).env) :: starEach [] (X i).env := by exact fun _ => rfl) (hplain : ∀ i, (backTo pos (starEach [] (X i).env)).any (·.1) = false := by exact fun _ => rfl) :
    EvJ X K E Γ R (.Call (.Attribute o "append" apos) [e] [] pos) (R.set k (rL p (ds ++ [d]))) dN := by
  refine ev_mt F PySem.F.plainAttrs_list PySem.F.slot_list_append PySem.F.type_list_append ho (ar_cons ha ar_nil hs) ⟨rAppend, fun _ => mt_append, fun Γ S σ H x q r => tyL (lv_o k hk) q r, fun Γ S σ H x xs Q q r1 r2 k' => ?_⟩ hbase hfew hline hs hplain
  obtain ⟨v, rfl, r3⟩ := all2_one r2
  cases (show x = .ref p from r1)
  obtain ⟨vs, h1, h2⟩ := q.cellL k hk
  refine ⟨p, vs, v, rfl, rfl, h1, ?_, k' _ S _ (Same.refl _) (q.putL k hk (daAll_app h2 (.cons (hd K S v r3) .nil))) rfl⟩
  have := daAll_len h2
  have : (sizeLine : Nat) = 16777216 := sizeLine_eq
  omega
/-- ''.join(xs) of texts -/
theorem ev_join (F : Fam X P w K mg base A N) {ds : List PyData} {apos : Pos} (ho : EvJ X K E Γ R o R (dS x)) (ha : EvJ X K E Γ R e R s2) (hl : LV K R s2 ds) (hs : ds.all isS = true) (hz : ((ds.map dstr).map (·.length)).sum + ds.length * x.length ≤ 16777216)
    (hbase : ∀ i, attributeBase o "join" (X i).env (eval o (X i).env) = eval o (X i).env := by exact fun _ => rfl)
    (hfew : ∀ i, ((backTo pos (starEach [e] (X i).env)).all (fun x => !x.1) && (backToKw pos (keywordEach [] (X i).env)).all (fun x => x.1.isSome) && decide ([e].length + ([] : List Keyword).length + (if ([] : List Keyword).isEmpty then 0 else 1) < 30)) = true := by exact fun _ => rfl)
    (hline : (apos.endLine == pos.line) = true := by rfl) (hst : ∀ i, starEach [e] (X i).env = (false, eval e (X i).env) :: starEach [] (X i).env := by exact fun _ => rfl) (hplain : ∀ i, (backTo pos (starEach [] (X i).env)).any (·.1) = false := by exact fun _ => rfl) :
    EvJ X K E Γ R (.Call (.Attribute o "join" apos) [e] [] pos) R (dS (Txt.join x (ds.map dstr))) := by
  refine ev_mt F PySem.F.plainAttrs_str PySem.F.slot_str_join PySem.F.type_str_join ho (ar_cons ha ar_nil hst) ⟨fun v xs H Q => ∃ a p, ∃ ys : List Str, v = .str a ∧ xs = [.ref p] ∧ (SqL K H p (ys.map V.str) ∨ SqT K H p (ys.map V.str)) ∧ (ys.map (·.length)).sum + ys.length * a.length ≤ 16777216 ∧ Q (.str (Txt.join a ys)) H,
    fun n => by rw [← F.fK n]; exact mt_join, fun Γ S σ H v q r => by cases (show v = .str x from r); rfl, fun Γ S σ H v xs Q q r1 r2 k' => ?_⟩ hbase hfew hline hst hplain
  obtain ⟨u, rfl, r3⟩ := all2_one r2
  cases (show v = .str x from r1)
  obtain ⟨p, vs, rfl, h1, h2⟩ := hl E Γ S σ H u q r3
  rw [da_strs hs h2] at h1
  exact ⟨x, p, ds.map dstr, rfl, rfl, .inl (SqL.of h1), by rw [List.length_map]; exact hz, k' _ S H (Same.refl _) q rfl⟩
/-- s.find(t) -/
theorem ev_find (F : Fam X P w K mg base A N) {apos : Pos} (ho : EvJ X K E Γ R o R (dS x)) (ha : EvJ X K E Γ R e R (dS y))
    (hbase : ∀ i, attributeBase o "find" (X i).env (eval o (X i).env) = eval o (X i).env := by exact fun _ => rfl)
    (hfew : ∀ i, ((backTo pos (starEach [e] (X i).env)).all (fun x => !x.1) && (backToKw pos (keywordEach [] (X i).env)).all (fun x => x.1.isSome) && decide ([e].length + ([] : List Keyword).length + (if ([] : List Keyword).isEmpty then 0 else 1) < 30)) = true := by exact fun _ => rfl)
    (hline : (apos.endLine == pos.line) = true := by rfl) (hst : ∀ i, starEach [e] (X i).env = (false, eval e (X i).env) :: starEach [] (X i).env := by exact fun _ => rfl) (hplain : ∀ i, (backTo pos (starEach [] (X i).env)).any (·.1) = false := by exact fun _ => rfl) :
    EvJ X K E Γ R (.Call (.Attribute o "find" apos) [e] [] pos) R (dI (Txt.find x y)) := by
  refine ev_mt F PySem.F.plainAttrs_str PySem.F.slot_str_find PySem.F.type_str_find ho (ar_cons ha ar_nil hst) ⟨_, fun n => mt_find, fun Γ S σ H v q r => by cases (show v = .str x from r); rfl, fun Γ S σ H v xs Q q r1 r2 k' => ?_⟩ hbase hfew hline hst hplain
  obtain ⟨u, rfl, r3⟩ := all2_one r2
  cases (show v = .str x from r1)
  cases (show u = .str y from r3)
  exact ⟨x, y, rfl, rfl, k' _ S H (Same.refl _) q rfl⟩

/-! ### slices -/
variable (X) (K) (E) in
def PoJ (Γ : Slots) (R : List Res) (e : Option Expr) (o : Option Int) : Prop := ∃ t : TO, (∀ i, PO (X i) e t) ∧ ∀ S σ H (Q : Option Int → Hp → Prop), SR K E Γ R S σ H → (∀ S' H', Same S S' → SR K E Γ R S' σ H' → Q o H') → t σ H Q
theorem po_no : PoJ X K E Γ R none none := ⟨tNoPart, fun _ => po_none, fun S σ H Q q k => k S H (Same.refl _) q⟩
theorem po_at (h : EvJ X K E Γ R e R (dI i)) : PoJ X K E Γ R (some e) (some i) := by
  obtain ⟨t, h1, h2⟩ := h
  exact ⟨tPart t, fun n => po_some (h1 n), fun S σ H Q q k => h2 S σ H _ q fun v S1 H1 e1 q1 r1 => ⟨i, r1, k S1 H1 e1 q1⟩⟩
variable {lo hi : Option Expr} {ol oh : Option Int} {p2 : Pos}
/-- what a slice gives -/
def cutD {α : Type} (xs : List α) (lo hi : Option Int) : List α := (xs.drop (HT.sIx xs.length 0 lo)).take (HT.sIx xs.length xs.length hi - HT.sIx xs.length 0 lo)
theorem daAll_cut {vs : List V} {ds : List PyData} (lo hi : Option Int) (h : DaAll K S vs ds) : DaAll K S (cutV vs lo hi) (cutD ds lo hi) := by
  unfold cutV cutD
  rw [daAll_len h]
  exact daAll_take _ (daAll_drop _ h)
theorem el_slice (F : Fam X P w K mg base A N) {ds : List PyData} (he : EvJ X K E Γ R e R s1) (hl : LV K R s1 ds) (h1 : PoJ X K E Γ R lo ol) (h2 : PoJ X K E Γ R hi oh) : EvL X K E Γ R (.Subscript e (.Slice lo hi none p2) pos) R (cutD ds ol oh) := by
  obtain ⟨t, a1, a2⟩ := he
  obtain ⟨tl, b1, b2⟩ := h1
  obtain ⟨th, c1, c2⟩ := h2
  refine ⟨tSl (rSlL K) t tl th, fun n => pe_slice (by rw [← F.fK n]; exact sl_list) (a1 n) (b1 n) (c1 n), fun S σ H Q q k => a2 S σ H _ q fun v S1 H1 e1 q1 r1 => b2 S1 σ H1 _ q1 fun S2 H2 e2 q2 => c2 S2 σ H2 _ q2 fun S3 H3 e3 q3 => ?_⟩
  obtain ⟨p, vs, rfl, g1, g2⟩ := hl E Γ S3 σ H3 v q3 (s1.mono (e2.trans e3) r1)
  exact ⟨p, vs, rfl, SqL.of g1, fun l hl => k l _ S3 _ ((e1.trans e2).trans e3) (q3.mine hl ⟨_, rfl, daAll_cut ol oh g2⟩) rfl⟩
theorem ev_sliceS (he : EvJ X K E Γ R e R (dS x)) (h1 : PoJ X K E Γ R lo ol) (h2 : PoJ X K E Γ R hi oh) (hz : x.length ≤ sizeLine) : EvJ X K E Γ R (.Subscript e (.Slice lo hi none p2) pos) R (dS (cutS x ol oh)) := by
  obtain ⟨t, a1, a2⟩ := he
  obtain ⟨tl, b1, b2⟩ := h1
  obtain ⟨th, c1, c2⟩ := h2
  exact ⟨tSl rSlS t tl th, fun n => pe_slice sl_str (a1 n) (b1 n) (c1 n), fun S σ H Q q k => a2 S σ H _ q fun v S1 H1 e1 q1 r1 => b2 S1 σ H1 _ q1 fun S2 H2 e2 q2 => c2 S2 σ H2 _ q2 fun S3 H3 e3 q3 => ⟨x, r1, hz, k _ S3 H3 ((e1.trans e2).trans e3) q3 rfl⟩⟩
/-- xs[::-1] -/
theorem el_rev (F : Fam X P w K mg base A N) {ds : List PyData} {k1 : Nat} {q1 q2 : Pos} (he : EvJ X K E Γ R e R s1) (hl : LV K R s1 ds) : EvL X K E Γ R (.Subscript e (.Slice none none (some (.UnaryOp .USub (.Constant (.int 1) k1 q1) q2)) p2) pos) R ds.reverse := by
  obtain ⟨t, a1, a2⟩ := he
  refine ⟨tRevL K t, fun n => by rw [← F.fK n]; exact pe_revL (a1 n), fun S σ H Q q k => a2 S σ H _ q fun v S1 H1 e1 q1 r1 => ?_⟩
  obtain ⟨p, vs, rfl, g1, g2⟩ := hl E Γ S1 σ H1 v q1 r1
  refine ⟨p, vs, rfl, SqL.of g1, fun l hl => k l _ S1 _ e1 (q1.mine hl ⟨_, rfl, ?_⟩) rfl⟩
  have : ∀ {vs : List V} {ds : List PyData}, DaAll K S1 vs ds → DaAll K S1 vs.reverse ds.reverse := by
    intro vs ds h
    induction ds generalizing vs with
    | nil => cases h; exact .nil
    | cons d ds ih =>
      cases h with
      | cons p t => rw [List.reverse_cons, List.reverse_cons]; exact daAll_app (ih t) (.cons p .nil)
  exact this g2
/-! ### lists by operators -/
theorem bn_cat {ds es' : List PyData} (h1 : LV K R s1 ds) (h2 : LV K R s2 es') (hz : ds.length + es'.length ≤ 10000000) : BinRN X K E (binaryOp .Add) R s1 s2 (fun p : Addr => R ++ [rL p (ds ++ es')]) (fun p => sv (.ref p)) :=
  ⟨rCat, fun _ => op_cat, fun Γ S σ H x y Q q r1 r2 k => by
    obtain ⟨p, vs, rfl, g1, g2⟩ := h1 E Γ S σ H x q r1
    obtain ⟨p2, us, rfl, g3, g4⟩ := h2 E Γ S σ H y q r2
    refine ⟨p, p2, vs, us, rfl, rfl, g1, g3, ?_, fun l hl => k l _ S _ (Same.refl _) (q.mine hl ⟨_, rfl, daAll_app g2 g4⟩) rfl⟩
    have : (sizeLine : Nat) = 16777216 := sizeLine_eq
    rw [daAll_len g2, daAll_len g4]
    omega⟩
/-- data compared -/
theorem br_eqD (F : Fam X P w K mg base A N) (hu : A.units + 64 < cLine) {d d' : PyData} (h1 : ∀ (Γ : Slots) S σ H v, SR K E Γ R S σ H → s1.r K S v → Dp K H v d) (h2 : ∀ (Γ : Slots) S σ H v, SR K E Γ R S σ H → s2.r K S v → Dp K H v d') (hs1 : SeqAt.shaped d = true) (hs2 : SeqAt.shaped d' = true) : BinR X K E (compareOp .Eq) R s1 s2 (dB (PyData.eqv d d')) :=
  ⟨rEqD K, fun n => by rw [← F.fK n]; exact op_eqD (by rw [F.fA n]; exact hu), fun Γ S σ H x y Q q r1 r2 k => ⟨d, d', h1 Γ S σ H x q r1, h2 Γ S σ H y q r2, hs1, hs2, k _ S H (Same.refl _) q rfl⟩⟩
theorem br_neD (F : Fam X P w K mg base A N) (hu : A.units + 64 < cLine) {d d' : PyData} (h1 : ∀ (Γ : Slots) S σ H v, SR K E Γ R S σ H → s1.r K S v → Dp K H v d) (h2 : ∀ (Γ : Slots) S σ H v, SR K E Γ R S σ H → s2.r K S v → Dp K H v d') (hs1 : SeqAt.shaped d = true) (hs2 : SeqAt.shaped d' = true) : BinR X K E (compareOp .NotEq) R s1 s2 (dB (!PyData.eqv d d')) :=
  ⟨rNeD K, fun n => by rw [← F.fK n]; exact op_neD (by rw [F.fA n]; exact hu), fun Γ S σ H x y Q q r1 r2 k => ⟨d, d', h1 Γ S σ H x q r1, h2 Γ S σ H y q r2, hs1, hs2, k _ S H (Same.refl _) q rfl⟩⟩
theorem dp_d {d : PyData} : ∀ (Γ : Slots) S σ H v, SR K E Γ R S σ H → (sd d).r K S v → Dp K H v d := fun Γ S σ H v q r => da_dp (da_same q.sub r)
theorem dp_ad {d : PyData} (h : ∀ K S v, s.r K S v → Da K S v d) : ∀ (Γ : Slots) S σ H v, SR K E Γ R S σ H → s.r K S v → Dp K H v d := fun Γ S σ H v q r => da_dp (da_same q.sub (h K S v r))
theorem dp_o (k : Nat) {p : Addr} {ds : List PyData} (h : R[k]? = some (rL p ds)) : ∀ (Γ : Slots) S σ H v, SR K E Γ R S σ H → (sv (.ref p)).r K S v → Dp K H v (.list ds) := fun Γ S σ H v q r => by
  cases (show v = .ref p from r)
  obtain ⟨vs, h1, h2⟩ := q.cellL k h
  exact .lst (SqL.of h1) (daAll_dp (daAll_same q.sub h2))

/-! ### a def's body, by the number of its parameters -/
section
variable {xn qual : Str} {st : Stmt} {fa : Addr} {fd : FuncData} {k : Nat} {α β γ δ ε : Type} {d1 : α → Sl} {d2 : β → Sl} {d3 : γ → Sl} {d4 : δ → Sl} {d5 : ε → Sl}
/-- what a def's body is asked -/
abbrev BodyOk (P : Program) (w : World) (K : PySem.W.Frag) (mg : Str → Option Value) (base : Heap) (N : List Str) (qual : Str) (st : Stmt) (fa : Addr) (k : Nat) {ν : Type} (as : List Sl) (Rn : ν → List Res) (res : ν → Sl) : Prop :=
  ∀ (cdv : Value) (A : Around) (outer : List Env) (s : Shared) (H S0 : Hp) (A0 : Addr → Prop) (E : XK) (Q : VK), Room k (A.deeper (envOfC qual (defScope st) s.heap.objs.size fa cdv)) → Fam (FX P w K mg base N qual st fa cdv A outer s H E) P w K mg base (A.deeper (envOfC qual (defScope st) s.heap.objs.size fa cdv)) N →
    RetOk K ⟨H, S0, A0⟩ Rn res Q → Blk (FX P w K mg base N qual st fa cdv A outer s H E) K ⟨H, S0, A0⟩ S0 (as.map some ++ List.replicate (N.length - as.length) none) [] (defBody st) { nx := fun _ H' => Q .non H', rt := Q }
variable (F : Fun K xn qual st fa fd) (Sc : FnScope N ps (defScope st))
include F Sc
theorem fn1 {pre : α → Prop} {res : α → Sl} (hl : ps.length = 1) (hb : ∀ x1, pre x1 → BodyOk P w K mg base N qual st fa k (ν := Unit) [d1 x1] (fun _ => []) (fun _ => res x1)) : FnOk P w K mg base CX0 (k + 1) fa fd ps (sp1 K pre d1 res) :=
  fn_ok F Sc (fun _ => hl.symm) fun i cdv A outer s H S0 A0 E Q hr hp hq => hb i hp cdv A outer s H S0 A0 E Q hr (fam_fx Sc) hq
theorem fn2 {pre : α → β → Prop} {res : α → β → Sl} (hl : ps.length = 2) (hb : ∀ x1 x2, pre x1 x2 → BodyOk P w K mg base N qual st fa k (ν := Unit) [d1 x1, d2 x2] (fun _ => []) (fun _ => res x1 x2)) : FnOk P w K mg base CX0 (k + 1) fa fd ps (sp2 K pre d1 d2 res) :=
  fn_ok F Sc (fun _ => hl.symm) fun i cdv A outer s H S0 A0 E Q hr hp hq => hb i.1 i.2 hp cdv A outer s H S0 A0 E Q hr (fam_fx Sc) hq
theorem fn3 {pre : α → β → γ → Prop} {res : α → β → γ → Sl} (hl : ps.length = 3) (hb : ∀ x1 x2 x3, pre x1 x2 x3 → BodyOk P w K mg base N qual st fa k (ν := Unit) [d1 x1, d2 x2, d3 x3] (fun _ => []) (fun _ => res x1 x2 x3)) : FnOk P w K mg base CX0 (k + 1) fa fd ps (sp3 K pre d1 d2 d3 res) :=
  fn_ok F Sc (fun _ => hl.symm) fun i cdv A outer s H S0 A0 E Q hr hp hq => hb i.1 i.2.1 i.2.2 hp cdv A outer s H S0 A0 E Q hr (fam_fx Sc) hq
theorem fn4 {pre : α → β → γ → δ → Prop} {res : α → β → γ → δ → Sl} (hl : ps.length = 4) (hb : ∀ x1 x2 x3 x4, pre x1 x2 x3 x4 → BodyOk P w K mg base N qual st fa k (ν := Unit) [d1 x1, d2 x2, d3 x3, d4 x4] (fun _ => []) (fun _ => res x1 x2 x3 x4)) : FnOk P w K mg base CX0 (k + 1) fa fd ps (sp4 K pre d1 d2 d3 d4 res) :=
  fn_ok F Sc (fun _ => hl.symm) fun i cdv A outer s H S0 A0 E Q hr hp hq => hb i.1 i.2.1 i.2.2.1 i.2.2.2 hp cdv A outer s H S0 A0 E Q hr (fam_fx Sc) hq
theorem fn5 {pre : α → β → γ → δ → ε → Prop} {res : α → β → γ → δ → ε → Sl} (hl : ps.length = 5) (hb : ∀ x1 x2 x3 x4 x5, pre x1 x2 x3 x4 x5 → BodyOk P w K mg base N qual st fa k (ν := Unit) [d1 x1, d2 x2, d3 x3, d4 x4, d5 x5] (fun _ => []) (fun _ => res x1 x2 x3 x4 x5)) : FnOk P w K mg base CX0 (k + 1) fa fd ps (sp5 K pre d1 d2 d3 d4 d5 res) :=
  fn_ok F Sc (fun _ => hl.symm) fun i cdv A outer s H S0 A0 E Q hr hp hq => hb i.1 i.2.1 i.2.2.1 i.2.2.2.1 i.2.2.2.2 hp cdv A outer s H S0 A0 E Q hr (fam_fx Sc) hq
theorem fnL1 {pre : α → Prop} {res : α → List PyData} (hl : ps.length = 1) (hb : ∀ x1, pre x1 → BodyOk P w K mg base N qual st fa k (ν := Addr) [d1 x1] (fun p => [rL p (res x1)]) (fun p => sv (.ref p))) : FnOk P w K mg base CX0 (k + 1) fa fd ps (spL1 K pre d1 res) :=
  fn_ok F Sc (fun _ => hl.symm) fun i cdv A outer s H S0 A0 E Q hr hp hq => hb i hp cdv A outer s H S0 A0 E Q hr (fam_fx Sc) hq
theorem fnL2 {pre : α → β → Prop} {res : α → β → List PyData} (hl : ps.length = 2) (hb : ∀ x1 x2, pre x1 x2 → BodyOk P w K mg base N qual st fa k (ν := Addr) [d1 x1, d2 x2] (fun p => [rL p (res x1 x2)]) (fun p => sv (.ref p))) : FnOk P w K mg base CX0 (k + 1) fa fd ps (spL2 K pre d1 d2 res) :=
  fn_ok F Sc (fun _ => hl.symm) fun i cdv A outer s H S0 A0 E Q hr hp hq => hb i.1 i.2 hp cdv A outer s H S0 A0 E Q hr (fam_fx Sc) hq
theorem fnL3 {pre : α → β → γ → Prop} {res : α → β → γ → List PyData} (hl : ps.length = 3) (hb : ∀ x1 x2 x3, pre x1 x2 x3 → BodyOk P w K mg base N qual st fa k (ν := Addr) [d1 x1, d2 x2, d3 x3] (fun p => [rL p (res x1 x2 x3)]) (fun p => sv (.ref p))) : FnOk P w K mg base CX0 (k + 1) fa fd ps (spL3 K pre d1 d2 d3 res) :=
  fn_ok F Sc (fun _ => hl.symm) fun i cdv A outer s H S0 A0 E Q hr hp hq => hb i.1 i.2.1 i.2.2 hp cdv A outer s H S0 A0 E Q hr (fam_fx Sc) hq
theorem fnL4 {pre : α → β → γ → δ → Prop} {res : α → β → γ → δ → List PyData} (hl : ps.length = 4) (hb : ∀ x1 x2 x3 x4, pre x1 x2 x3 x4 → BodyOk P w K mg base N qual st fa k (ν := Addr) [d1 x1, d2 x2, d3 x3, d4 x4] (fun p => [rL p (res x1 x2 x3 x4)]) (fun p => sv (.ref p))) : FnOk P w K mg base CX0 (k + 1) fa fd ps (spL4 K pre d1 d2 d3 d4 res) :=
  fn_ok F Sc (fun _ => hl.symm) fun i cdv A outer s H S0 A0 E Q hr hp hq => hb i.1 i.2.1 i.2.2.1 i.2.2.2 hp cdv A outer s H S0 A0 E Q hr (fam_fx Sc) hq
end
/-- a return, of a scalar; of a new list -/
theorem retJ {res : Sl} {Q : VK} (hq : RetOk (ν := Unit) K E (fun _ => []) (fun _ => res) Q) (h : ∀ K S v, s.r K S v → res.r K S v) : ∀ S σ H v, SR K E Γ R1 S σ H → s.r K S v → Q v H := fun S σ H v q r => hq () Γ S σ H v (SR.drop (R := []) q) (h K S v r)
theorem retE {res : Sl} {Q : VK} (hq : RetOk (ν := Unit) K E (fun _ => []) (fun _ => res) Q) (h : s = res) : ∀ S σ H v, SR K E Γ R1 S σ H → s.r K S v → Q v H := fun S σ H v q r => hq () Γ S σ H v (SR.drop (R := []) q) (h ▸ r)
theorem retL {ds ds' : List PyData} {Q : VK} (hq : RetOk (ν := Addr) K E (fun p => [rL p ds]) (fun p => sv (.ref p)) Q) (h : ds' = ds) : ∀ p S σ H v, SR K E Γ ([] ++ [rL p ds']) S σ H → (sv (.ref p)).r K S v → Q v H := fun p S σ H v q r => by
  subst h
  exact hq p Γ S σ H v q r
end
end SL

/-! small things for the walk's lines -/
namespace SL
open PySem PySem.Spec PyProof.Rows L2
theorem kit_int_int : kitB "int" "int" = some true := by decide +kernel
theorem kit_int_str : kitB "int" "str" = some false := by decide +kernel
theorem kit_int_bool : kitB "int" "bool" = some false := by decide +kernel
theorem kit_int_list : kitB "int" "list" = some false := by decide +kernel
theorem kit_int_tuple : kitB "int" "tuple" = some false := by decide +kernel
theorem kit_int_dict : kitB "int" "dict" = some false := by decide +kernel
theorem kit_str_int : kitB "str" "int" = some false := by decide +kernel
theorem kit_str_str : kitB "str" "str" = some true := by decide +kernel
theorem kit_str_bool : kitB "str" "bool" = some false := by decide +kernel
theorem kit_str_list : kitB "str" "list" = some false := by decide +kernel
theorem kit_str_tuple : kitB "str" "tuple" = some false := by decide +kernel
theorem kit_str_dict : kitB "str" "dict" = some false := by decide +kernel
theorem kit_bool_int : kitB "bool" "int" = some true := by decide +kernel
theorem kit_bool_str : kitB "bool" "str" = some false := by decide +kernel
theorem kit_bool_bool : kitB "bool" "bool" = some true := by decide +kernel
theorem kit_bool_list : kitB "bool" "list" = some false := by decide +kernel
theorem kit_bool_tuple : kitB "bool" "tuple" = some false := by decide +kernel
theorem kit_bool_dict : kitB "bool" "dict" = some false := by decide +kernel
theorem kit_NoneType_int : kitB "NoneType" "int" = some false := by decide +kernel
theorem kit_NoneType_str : kitB "NoneType" "str" = some false := by decide +kernel
theorem kit_NoneType_bool : kitB "NoneType" "bool" = some false := by decide +kernel
theorem kit_NoneType_list : kitB "NoneType" "list" = some false := by decide +kernel
theorem kit_NoneType_tuple : kitB "NoneType" "tuple" = some false := by decide +kernel
theorem kit_NoneType_dict : kitB "NoneType" "dict" = some false := by decide +kernel
theorem kit_list_int : kitB "list" "int" = some false := by decide +kernel
theorem kit_list_str : kitB "list" "str" = some false := by decide +kernel
theorem kit_list_bool : kitB "list" "bool" = some false := by decide +kernel
theorem kit_list_list : kitB "list" "list" = some true := by decide +kernel
theorem kit_list_tuple : kitB "list" "tuple" = some false := by decide +kernel
theorem kit_list_dict : kitB "list" "dict" = some false := by decide +kernel
theorem kit_tuple_int : kitB "tuple" "int" = some false := by decide +kernel
theorem kit_tuple_str : kitB "tuple" "str" = some false := by decide +kernel
theorem kit_tuple_bool : kitB "tuple" "bool" = some false := by decide +kernel
theorem kit_tuple_list : kitB "tuple" "list" = some false := by decide +kernel
theorem kit_tuple_tuple : kitB "tuple" "tuple" = some true := by decide +kernel
theorem kit_tuple_dict : kitB "tuple" "dict" = some false := by decide +kernel
theorem kit_dict_int : kitB "dict" "int" = some false := by decide +kernel
theorem kit_dict_str : kitB "dict" "str" = some false := by decide +kernel
theorem kit_dict_bool : kitB "dict" "bool" = some false := by decide +kernel
theorem kit_dict_list : kitB "dict" "list" = some false := by decide +kernel
theorem kit_dict_tuple : kitB "dict" "tuple" = some false := by decide +kernel
theorem kit_dict_dict : kitB "dict" "dict" = some true := by decide +kernel
section
variable {ι : Type} {X : ι → Cx} {K : PySem.W.Frag} {E : Ent} {B : Hp} {Γ Γ' : Slots} {R R' R1 R2' R3 : List Res} {a b c e o : Expr} {es : List Expr} {pos p' : Pos} {s s1 s2 s3 : Sl}
  {P : Program} {w : World} {mg : Str → Option Value} {base : Heap} {A : Around} {N : List Str} {rest sts : List Stmt} {D : Ends} {S S' H H' : Hp} {σ σ' : L2.St} {f : Str} {ps : List Str} {i j : Int} {x y : Str}
theorem ev_pow (n : Int) (ha : EvJ X K E Γ R a R1 (dI i)) (hb : EvJ X K E Γ R1 b R2' (dI j)) (hc : CPow i j := by refine ⟨?_, ?_, ?_⟩ <;> decide) (hn : i ^ j.toNat = n := by decide) : EvJ X K E Γ R (.BinOp a .Pow b pos) R2' (dI n) := by
  subst hn
  exact ev_bin ha hb (br_pow hc)
/-- slots of which less is said -/
def WkS (a b : Option Sl) : Prop := ∀ s', a = some s' → ∃ t, b = some t ∧ ∀ K S v, t.r K S v → s'.r K S v
theorem wk_none {b : Option Sl} : WkS none b := fun s' e => nomatch e
theorem wk_same : WkS (some s) (some s) := fun s' e => ⟨s, rfl, fun K S v h => by rw [← Option.some.inj e]; exact h⟩
theorem wk_eq {t : Sl} (h : s = t) : WkS (some s) (some t) := h ▸ wk_same
theorem wkG (h : All2 WkS Γ' Γ) : ∀ S σ H, SR K E Γ R S σ H → SR K E Γ' R S σ H := fun S σ H q => q.weakΓ (h.imp fun a b g s' e => let ⟨t, e1, e2⟩ := g s' e; ⟨t, e1, fun v => e2 K S v⟩)
/-- a def proved is one that may be called -/
theorem cal_of {CX : CXT} {k m : Nat} {fa : Addr} {fd : FuncData} {sp : Sp} (h : FnOk P w K mg base CX k fa fd ps sp) (hr : Room m A) (hk : k ≤ m) (hm : mg f = some (.ref fa)) (kp : PySem.W.keepIn K (.ref fa) = true) (hb : Binds K fd ps []) (hx : ∀ Y : Cx, Y.prog = P → Y.w = w → Passes CX Y E0) : Cal P w K mg base A f ps sp :=
  ⟨CX, k, fa, fd, h, hr.mono hk, hm, kp, hb, hx⟩
theorem passN : ∀ Y : Cx, Y.prog = P → Y.w = w → Passes CX0 Y E0 := fun _ _ _ => pass0
end
/-- a def of the text: its promise, where it stands -/
structure Def (P : Program) (w : World) (K : PySem.W.Frag) (mg : Str → Option Value) (base : Heap) (f : Str) (ps : List Str) (k : Nat) (sp : Sp) : Prop where
  ex : ∃ (fa : Addr) (fd : FuncData), FnOk P w K mg base CX0 k fa fd ps sp ∧ mg f = some (.ref fa) ∧ PySem.W.keepIn K (.ref fa) = true ∧ Binds K fd ps []
theorem Def.cal {P : Program} {w : World} {K : PySem.W.Frag} {mg : Str → Option Value} {base : Heap} {f : Str} {ps : List Str} {k m : Nat} {sp : Sp} {A : Around} (d : Def P w K mg base f ps k sp) (hr : Room m A) (hk : k ≤ m := by decide) : Cal P w K mg base A f ps sp :=
  let ⟨fa, fd, h1, h2, h3, h4⟩ := d.ex; cal_of h1 hr hk h2 h3 h4 passN
/-- the law's own promise -/
theorem spLaw_of {K : PySem.W.Frag} {H : Hp} {a : Addr} {ns : List Int} {E : XK} (hl : ns.length ≤ 63) (hS : SqL K H a (ns.map V.int)) :
    sp1 K (fun (ns : List Int) => ns.length ≤ 63) sscr (fun _ => dB true) [.ref a] H (fun v _ => v = .bl true) E :=
  ⟨ns, H, [], hl, fun _ _ h => h, .cons ⟨a, rfl, hS⟩ .nil, ⟨.nil, .nil⟩, fun _ _ _ _ _ _ _ _ _ _ _ h => h⟩
end SL

/-! the draws of a law: their mirrors -/
namespace SL
open PySem PySem.Spec PyProof.Rows L2
def cellA (ns : List Int) (k : Int) : Int := if 0 < ns.length then ns.getD (k % ns.length).toNat 0 else 0
def partA (ns : List Int) (k : Int) : Int := if 1000000000000000000 ≤ cellA ns k then cellA ns k / 2 ^ (20 * (k / ns.length)).toNat else 0
def byA (ns : List Int) (k many : Int) : Int :=
  if 0 < partA ns k then partA ns k % many
  else (cellA ns k % 1000003 + 31 * k * k + 1) * 48271 % 999983 * 7919 % 524287 % many
theorem by_nn {ns : List Int} {k m : Int} (h : 0 < m) : 0 ≤ byA ns k m := by
  unfold byA
  split <;> exact Int.emod_nonneg _ (by omega)
theorem by_lt {ns : List Int} {k m n : Int} (h : 0 < m ∧ m ≤ n) : byA ns k m < n := by
  unfold byA
  split <;> exact Int.lt_of_lt_of_le (Int.emod_lt_of_pos _ h.1) h.2
theorem cell_at_ok {ns : List Int} {k : Int} (h : 0 < ns.length) : atI ns (k % (ns.length : Int)) = some (cellA ns k) := by
  unfold cellA
  rw [if_pos h]
  exact atI_open (Int.emod_nonneg _ (by omega)) (Int.emod_lt_of_pos _ (by omega))
end SL

/-! lists that are walked, alone, numbered or two at once; data compared -/
namespace SL
open PySem PySem.Spec PyProof.Rows L2
section
variable {ι : Type} {X : ι → Cx} {K : PySem.W.Frag} {E : Ent} {B : Hp} {Γ Γ' : Slots} {R R' R1 R2' R3 : List Res} {a b c e o : Expr} {es : List Expr} {pos p' : Pos} {s s1 s2 s3 : Sl}
  {P : Program} {w : World} {mg : Str → Option Value} {base : Heap} {A : Around} {N : List Str} {rest sts : List Stmt} {D : Ends} {S S' H H' : Hp} {σ σ' : L2.St} {f : Str} {ps : List Str} {i j : Int} {x y : Str}
/-- what s says is a list of the data ds, and stays so while C holds -/
def LS (K : PySem.W.Frag) (E : Ent) (R1 : List Res) (s : Sl) (ds : List PyData) (C : List Res → Prop) : Prop :=
  ∀ (Γ : Slots) (S : Hp) (σ : L2.St) (H : Hp) (v : V), SR K E Γ R1 S σ H → s.r K S v → ∃ p, v = .ref p ∧ (∃ vs, SqL K H p vs) ∧
    ∀ (Γ' : Slots) (R' : List Res) (S' : Hp) (σ' : L2.St) (H' : Hp), Same S S' → SR K E Γ' R' S' σ' H' → C R' → ∃ vs, SqL K H' p vs ∧ DaAll K S' vs ds
theorem ls_d {ds : List PyData} : LS K E R1 (sd (.list ds)) ds CAny := fun Γ S σ H v q r => by
  cases r with
  | lst h t => exact ⟨_, rfl, ⟨_, SqL.of (q.sub _ _ h)⟩, fun Γ' R' S' σ' H' e q' _ => ⟨_, SqL.of (q'.sub _ _ (e _ _ h)), daAll_same e t⟩⟩
theorem ls_o (m : Nat) {p : Addr} {ds : List PyData} (hm : R1[m]? = some (rL p ds)) : LS K E R1 (sv (.ref p)) ds (fun R' => R'[m]? = some (rL p ds)) := fun Γ S σ H v q r => by
  cases (show v = .ref p from r)
  obtain ⟨p', vs, e0, h1, h2⟩ := lv_o m hm E Γ S σ H _ q rfl
  cases e0
  refine ⟨p, rfl, ⟨vs, SqL.of h1⟩, fun Γ' R' S' σ' H' e q' hC => ?_⟩
  obtain ⟨p', us, e0, g1, g2⟩ := lv_o m hC E Γ' S' σ' H' _ q' rfl
  cases e0
  exact ⟨us, SqL.of g1, g2⟩
theorem daAll_ints {S : Hp} : ∀ ns : List Int, DaAll K S (ns.map V.int) (ns.map PyData.int)
  | [] => .nil
  | n :: ns => .cons (.int n) (daAll_ints ns)
theorem ls_scr {ns : List Int} : LS K E R1 (sscr ns) (ns.map .int) CAny := fun Γ S σ H v q r => by
  obtain ⟨p, rfl, h⟩ := r
  exact ⟨p, rfl, ⟨_, same_l q.sub h⟩, fun Γ' R' S' σ' H' e q' _ => ⟨_, same_l q'.sub (same_l e h), daAll_ints ns⟩⟩
theorem sqL_same {K : PySem.W.Frag} {H : Hp} {a : Addr} {xs ys : List V} {n : Nat} {x y : V} (h : ∀ xs, SqL K H a xs → xs[n]? = some x) (h1 : SqL K H a ys) (h2 : ys[n]? = some y) : x = y := by
  have := h ys h1
  rw [h2] at this
  exact (Option.some.inj this).symm
theorem it_ls (F : Fam X P w K mg base A N) {tg : Expr} {ds : List PyData} {C : List Res → Prop} (h : EvJ X K E Γ R e R1 s) (hl : LS K E R1 s ds C) : ItJ X K E Γ R tg e R1 (ds.map sl) C := by
  obtain ⟨t, a1, a2⟩ := h
  refine ⟨iList K t, fun i => by rw [← F.fK i]; exact pi_list (a1 i), fun S σ H Rk q k => a2 S σ H _ q fun v S1 H1 e1 q1 r1 => ?_⟩
  obtain ⟨p, rfl, h1, h2⟩ := hl Γ S1 σ H1 v q1 r1
  refine ⟨p, rfl, h1, k _ S1 H1 e1 q1 fun n Γ' R' S' σ' H' e' q' hC => ?_⟩
  obtain ⟨vs, g1, g2⟩ := h2 Γ' R' S' σ' H' e' q' hC
  refine ⟨fun s hs => ?_, fun hn => ⟨vs, g1, by rw [List.length_map] at hn; rw [daAll_len g2]; exact hn⟩⟩
  rw [List.getElem?_map] at hs
  cases e2 : ds[n]? with
  | none => rw [e2] at hs; cases hs
  | some d =>
    rw [e2] at hs
    cases hs
    obtain ⟨x, hx, hd⟩ := daAll_get' g2 e2
    refine ⟨⟨vs, x, g1, hx⟩, fun y H'' ⟨z1, z2⟩ => ?_⟩
    subst z1
    cases sqL_same (ys := vs) (xs := vs) z2 g1 hx
    exact ⟨S', Same.refl _, q', sl_da.mpr hd⟩
theorem it_enum (F : Fam X P w K mg base A N) {ts : List Expr} {kk : Nat} {tpos : Pos} {ds : List PyData} {C : List Res → Prop} (hm : mg "enumerate" = none) (h : EvJ X K E Γ R e R1 s) (hl : LS K E R1 s ds C) (hg : ∀ i, Gl (X i) "enumerate" := by exact fun _ => rfl) (hs : ∀ i, starEach [e] (X i).env = [(false, eval e (X i).env)] := by exact fun _ => rfl) :
    ItJ X K E Γ R (.Tuple ts kk tpos) (.Call (.Name "enumerate" p') [e] [] pos) R1 (ds.zipIdx.map fun x => stup [dI (x.2 : Nat), sl x.1]) C := by
  obtain ⟨t, a1, a2⟩ := ar_cons h ar_nil hs
  refine ⟨iEnum K t, fun i => by rw [← F.fK i]; exact pi_enum (hg i) (by rw [F.fmg i]; exact hm) (a1 i) (hs i), fun S σ H Rk q k => a2 S σ H _ q fun vs S1 H1 e1 q1 r1 => ?_⟩
  obtain ⟨v, rfl, r2⟩ := all2_one r1
  obtain ⟨p, rfl, ⟨us, h1⟩, h2⟩ := hl Γ S1 σ H1 v q1 r2
  refine ⟨p, us, rfl, h1, k _ S1 H1 e1 q1 fun n Γ' R' S' σ' H' e' q' hC => ?_⟩
  obtain ⟨vs, g1, g2⟩ := h2 Γ' R' S' σ' H' e' q' hC
  refine ⟨fun s hs => ?_, fun hn => ⟨vs, g1, by rw [List.length_map, List.length_zipIdx] at hn; rw [daAll_len g2]; exact hn⟩⟩
  rw [List.getElem?_map, List.getElem?_zipIdx] at hs
  cases e2 : ds[n]? with
  | none => rw [e2] at hs; cases hs
  | some d =>
    rw [e2] at hs
    cases hs
    obtain ⟨x, hx, hd⟩ := daAll_get' g2 e2
    refine ⟨⟨vs, x, g1, hx⟩, fun y H'' ⟨T, x', z1, z2, z3, z4⟩ => ?_⟩
    subst z1 z3
    cases sqL_same (ys := vs) (xs := vs) z4 g1 hx
    have e3 := same_new (o := .tup [.int (n : Nat), x]) (q'.free z2)
    refine ⟨_, e3, q'.grow z2, T, _, rfl, SqT.of upd_same, .cons ?_ (.cons (sl_da.mpr (da_same e3 hd)) .nil)⟩
    show V.int _ = V.int _
    simp
theorem it_zip (F : Fam X P w K mg base A N) {ts : List Expr} {kk : Nat} {tpos : Pos} {ds ds' : List PyData} {C C' : List Res → Prop} (hm : mg "zip" = none) (h : EvJ X K E Γ R a R1 s1) (h' : EvJ X K E Γ R1 b R2' s2) (hl : LS K E R2' s1 ds C) (hl' : LS K E R2' s2 ds' C') (hg : ∀ i, Gl (X i) "zip" := by exact fun _ => rfl)
    (hs : ∀ i, starEach [a, b] (X i).env = (false, eval a (X i).env) :: starEach [b] (X i).env := by exact fun _ => rfl) (hs' : ∀ i, starEach [b] (X i).env = (false, eval b (X i).env) :: starEach [] (X i).env := by exact fun _ => rfl) (hpl : ∀ i, (backTo pos (starEach [b] (X i).env)).any (·.1) = false := by exact fun _ => rfl) :
    ItJ X K E Γ R (.Tuple ts kk tpos) (.Call (.Name "zip" p') [a, b] [] pos) R2' ((ds.zip ds').map fun x => stup [sl x.1, sl x.2]) (fun R' => C R' ∧ C' R') := by
  obtain ⟨t, a1, a2⟩ := ar_cons h (ar_cons h' ar_nil hs') hs
  refine ⟨iZip K t, fun i => by rw [← F.fK i]; exact pi_zip (hg i) (by rw [F.fmg i]; exact hm) (a1 i) (hs i) (hpl i), fun S σ H Rk q k => a2 S σ H _ q fun vs S1 H1 e1 q1 r1 => ?_⟩
  obtain ⟨v, v', rfl, r2, r3⟩ : ∃ v v', vs = [v, v'] ∧ s1.r K S1 v ∧ s2.r K S1 v' := by
    cases r1 with
    | cons z1 z2 =>
      cases z2 with
      | cons z3 z4 =>
        cases z4
        exact ⟨_, _, rfl, z1, z3⟩
  obtain ⟨p, rfl, ⟨us, h1⟩, h2⟩ := hl Γ S1 σ H1 v q1 r2
  obtain ⟨p', rfl, ⟨us', h1'⟩, h2'⟩ := hl' Γ S1 σ H1 v' q1 r3
  refine ⟨p, p', us, us', rfl, h1, h1', k _ S1 H1 e1 q1 fun n Γ' R' S' σ' H' e' q' hC => ?_⟩
  obtain ⟨vs, g1, g2⟩ := h2 Γ' R' S' σ' H' e' q' hC.1
  obtain ⟨vs', g1', g2'⟩ := h2' Γ' R' S' σ' H' e' q' hC.2
  refine ⟨fun s hs => ?_, fun hn => ⟨vs, vs', g1, g1', by rw [List.length_map, List.length_zip] at hn; rw [daAll_len g2, daAll_len g2']; omega⟩⟩
  rw [List.getElem?_map] at hs
  cases e2 : (ds.zip ds')[n]? with
  | none => rw [e2] at hs; cases hs
  | some d =>
    rw [e2] at hs
    cases hs
    obtain ⟨e3, e4⟩ := List.getElem?_zip_eq_some.mp e2
    obtain ⟨x, hx, hd⟩ := daAll_get' g2 e3
    obtain ⟨x', hx', hd'⟩ := daAll_get' g2' e4
    refine ⟨⟨vs, vs', x, x', g1, g1', hx, hx'⟩, fun y H'' ⟨T, u, u', z1, z2, z3, z4, z5⟩ => ?_⟩
    subst z1 z3
    cases sqL_same (ys := vs) (xs := vs) z4 g1 hx
    cases sqL_same (ys := vs') (xs := vs') z5 g1' hx'
    have e5 := same_new (o := .tup [x, x']) (q'.free z2)
    exact ⟨_, e5, q'.grow z2, T, _, rfl, SqT.of upd_same, .cons (sl_da.mpr (da_same e5 hd)) (.cons (sl_da.mpr (da_same e5 hd')) .nil)⟩
/-- the same things by other names -/
theorem it_as {α : Type} {tg it0 : Expr} {items : List Sl} {C : List Res → Prop} (xs : List α) (it : α → Sl) (h : ItJ X K E Γ R tg it0 R1 items C) (e : items = xs.map it) : ItJ X K E Γ R tg it0 R1 (xs.map it) C := e ▸ h
theorem sl_ints {ns : List Int} : (ns.map PyData.int).map sl = ns.map dI := by
  rw [List.map_map]
  rfl
theorem sl_strs {ns : List Str} : (ns.map PyData.str).map sl = ns.map dS := by
  rw [List.map_map]
  rfl

/-! ### data compared -/
mutual
theorem da_plain {K : PySem.W.Frag} {H : Hp} : ∀ {v : V} {d : PyData}, Da K H v d → d.plain = true
  | _, _, .non => rfl
  | _, _, .bl _ => rfl
  | _, _, .int _ => rfl
  | _, _, .str _ => rfl
  | _, _, .lst _ r => by rw [PyData.plain]; exact daAll_plain r
  | _, _, .tup _ r => by rw [PyData.plain]; exact daAll_plain r
theorem daAll_plain {K : PySem.W.Frag} {H : Hp} : ∀ {vs : List V} {ds : List PyData}, DaAll K H vs ds → PyData.plainAll ds = true
  | _, _, .nil => rfl
  | _, _, .cons h r => by rw [PyData.plainAll, da_plain h, daAll_plain r]; rfl
end
mutual
theorem eqv_plain : ∀ d : PyData, d.plain = true → PyData.eqv d d = true
  | .none, _ => rfl
  | .bool b, _ => by simp [PyData.eqv]
  | .int i, _ => by simp [PyData.eqv]
  | .str x, _ => by simp [PyData.eqv]
  | .list xs, h => by rw [PyData.eqv]; exact eqvAll_plain xs (by rw [PyData.plain] at h; exact h)
  | .tuple xs, h => by rw [PyData.eqv]; exact eqvAll_plain xs (by rw [PyData.plain] at h; exact h)
  | .dict _, h => nomatch h
theorem eqvAll_plain : ∀ xs : List PyData, PyData.plainAll xs = true → PyData.eqvAll xs xs = true
  | [], _ => rfl
  | x :: xs, h => by
    have h' : x.plain = true ∧ PyData.plainAll xs = true := by simpa [PyData.plainAll] using h
    rw [PyData.eqvAll, eqv_plain x h'.1, eqvAll_plain xs h'.2]; rfl
end
def dep (k : Nat) (d : PyData) : Prop := d.depth ≤ k
def depA (k : Nat) (ds : List PyData) : Prop := PyData.depthAll ds ≤ k
theorem dep_int {k : Nat} {i : Int} : dep k (.int i) := Nat.zero_le _
theorem dep_str {k : Nat} {i : Str} : dep k (.str i) := Nat.zero_le _
theorem dep_bool {k : Nat} {i : Bool} : dep k (.bool i) := Nat.zero_le _
theorem dep_none {k : Nat} : dep k .none := Nat.zero_le _
theorem dep_list {k : Nat} {ds : List PyData} (h : depA k ds) : dep (k + 1) (.list ds) := by
  unfold dep
  have : PyData.depthAll ds ≤ k := h
  simp only [PyData.depth]
  omega
theorem dep_tup {k : Nat} {ds : List PyData} (h : depA k ds) : dep (k + 1) (.tuple ds) := by
  unfold dep
  have : PyData.depthAll ds ≤ k := h
  simp only [PyData.depth]
  omega
theorem depA_nil {k : Nat} : depA k [] := Nat.zero_le _
theorem depA_cons {k : Nat} {d : PyData} {ds : List PyData} (h : dep k d) (r : depA k ds) : depA k (d :: ds) := by
  have h1 : d.depth ≤ k := h
  have h2 : PyData.depthAll ds ≤ k := r
  unfold depA
  simp only [PyData.depthAll]
  omega
theorem depA_all {k : Nat} : ∀ {ds : List PyData}, (∀ d ∈ ds, dep k d) → depA k ds
  | [], _ => depA_nil
  | d :: ds, h => depA_cons (h d (List.mem_cons_self ..)) (depA_all fun x hx => h x (List.mem_cons_of_mem _ hx))
theorem depA_map {α : Type} {k : Nat} {f : α → PyData} {xs : List α} (h : ∀ x, dep k (f x)) : depA k (xs.map f) := depA_all fun d hd => by
  obtain ⟨x, _, rfl⟩ := List.mem_map.mp hd
  exact h x
theorem depA_mem {k : Nat} : ∀ {ds : List PyData} {d : PyData}, depA k ds → d ∈ ds → dep k d
  | e :: ds, d, h, hd => by
    have h2 : PyData.depthAll (e :: ds) ≤ k := h
    simp only [PyData.depthAll] at h2
    rcases List.mem_cons.mp hd with z | z
    · subst z
      show d.depth ≤ k
      omega
    · exact depA_mem (show PyData.depthAll ds ≤ k by omega) z
theorem depA_app {k : Nat} {ds es : List PyData} (h : depA k ds) (g : depA k es) : depA k (ds ++ es) := depA_all fun d hd => (List.mem_append.mp hd).elim (depA_mem h) (depA_mem g)
/-- what s says is the data d -/
def DV (K : PySem.W.Frag) (R : List Res) (s : Sl) (d : PyData) : Prop := ∀ (E : Ent) (Γ : Slots) (S : Hp) (σ : L2.St) (H : Hp) (v : V), SR K E Γ R S σ H → s.r K S v → Dp K H v d ∧ d.plain = true
theorem dv_d {d : PyData} : DV K R (sd d) d := fun E Γ S σ H v q r => ⟨da_dp (da_same q.sub r), da_plain (show Da K S v d from r)⟩
theorem dv_ad {d : PyData} (h : ∀ K S v, s.r K S v → Da K S v d) : DV K R s d := fun E Γ S σ H v q r => ⟨da_dp (da_same q.sub (h K S v r)), da_plain (h K S v r)⟩
theorem dv_o (k : Nat) {p : Addr} {ds : List PyData} (h : R[k]? = some (rL p ds)) : DV K R (sv (.ref p)) (.list ds) := fun E Γ S σ H v q r => by
  cases (show v = .ref p from r)
  obtain ⟨vs, h1, h2⟩ := q.cellL k h
  exact ⟨.lst (SqL.of h1) (daAll_dp (daAll_same q.sub h2)), by rw [PyData.plain]; exact daAll_plain h2⟩
def rEqP (K : PySem.W.Frag) : R2 := fun x y H Q => ∃ d e, Dp K H x d ∧ Dp K H y e ∧ d.plain = true ∧ e.plain = true ∧ min d.depth e.depth ≤ 64 ∧ Q (.bl (PyData.eqv d e)) H
def rNeP (K : PySem.W.Frag) : R2 := fun x y H Q => ∃ d e, Dp K H x d ∧ Dp K H y e ∧ d.plain = true ∧ e.plain = true ∧ min d.depth e.depth ≤ 64 ∧ Q (.bl (!PyData.eqv d e)) H
theorem op_eqP {X : Cx} (hu : X.A.units + 64 < cLine) : OpR X (compareOp .Eq) (rEqP X.K) := by
  intro pins s σ H x y v u Q I rx ry h
  obtain ⟨d, e, hd, he, sd, se, hm, q⟩ := h
  obtain ⟨as, r1⟩ := Dp.reads I d x v hd rx
  obtain ⟨bs, r2⟩ := Dp.reads I e y u he ry
  exact SeqAt.eq_plain r1 r2 sd se (by omega) ⟨.bl _, H, I, rfl, q⟩
theorem op_neP {X : Cx} (hu : X.A.units + 64 < cLine) : OpR X (compareOp .NotEq) (rNeP X.K) := by
  intro pins s σ H x y v u Q I rx ry h
  obtain ⟨d, e, hd, he, sd, se, hm, q⟩ := h
  obtain ⟨as, r1⟩ := Dp.reads I d x v hd rx
  obtain ⟨bs, r2⟩ := Dp.reads I e y u he ry
  exact SeqAt.ne_plain r1 r2 sd se (by omega) ⟨.bl _, H, I, rfl, q⟩
theorem br_eqP {k : Nat} (F : Fam X P w K mg base A N) (hr : Room k A) {d d' : PyData} (h1 : DV K R s1 d) (h2 : DV K R s2 d') (hd : dep 64 d ∨ dep 64 d') : BinR X K E (compareOp .Eq) R s1 s2 (dB (PyData.eqv d d')) :=
  ⟨rEqP K, fun n => by rw [← F.fK n]; exact op_eqP (by rw [F.fA n]; exact hr.units), fun Γ S σ H x y Q q r1 r2 k => ⟨d, d', (h1 E Γ S σ H x q r1).1, (h2 E Γ S σ H y q r2).1, (h1 E Γ S σ H x q r1).2, (h2 E Γ S σ H y q r2).2, by rcases hd with z | z <;> (have : _ ≤ 64 := z; omega), k _ S H (Same.refl _) q rfl⟩⟩
theorem br_neP {k : Nat} (F : Fam X P w K mg base A N) (hr : Room k A) {d d' : PyData} (h1 : DV K R s1 d) (h2 : DV K R s2 d') (hd : dep 64 d ∨ dep 64 d') : BinR X K E (compareOp .NotEq) R s1 s2 (dB (!PyData.eqv d d')) :=
  ⟨rNeP K, fun n => by rw [← F.fK n]; exact op_neP (by rw [F.fA n]; exact hr.units), fun Γ S σ H x y Q q r1 r2 k => ⟨d, d', (h1 E Γ S σ H x q r1).1, (h2 E Γ S σ H y q r2).1, (h1 E Γ S σ H x q r1).2, (h2 E Γ S σ H y q r2).2, by rcases hd with z | z <;> (have : _ ≤ 64 := z; omega), k _ S H (Same.refl _) q rfl⟩⟩
end
theorem plA_map {α : Type} {f : α → PyData} (h : ∀ x, (f x).plain = true) : ∀ xs : List α, PyData.plainAll (xs.map f) = true
  | [] => rfl
  | x :: xs => by rw [List.map_cons, PyData.plainAll, h x, plA_map h xs]; rfl
theorem plA_app : ∀ {xs ys : List PyData}, PyData.plainAll xs = true → PyData.plainAll ys = true → PyData.plainAll (xs ++ ys) = true
  | [], _, _, h => h
  | x :: xs, ys, h, g => by
    have h' : x.plain = true ∧ PyData.plainAll xs = true := by simpa [PyData.plainAll] using h
    rw [List.cons_append, PyData.plainAll, h'.1, plA_app h'.2 g]; rfl
theorem eqv_nil {ds : List PyData} : PyData.eqv (.list ds) (.list []) = ds.isEmpty := by
  cases ds <;> simp [PyData.eqv, PyData.eqvAll]
theorem eqv_ints (xs ys : List Int) : PyData.eqv (.list (xs.map .int)) (.list (ys.map .int)) = decide (xs = ys) := by
  rw [PyData.eqv]
  induction xs generalizing ys with
  | nil => cases ys <;> simp [PyData.eqvAll]
  | cons x xs ih =>
    cases ys with
    | nil => simp [PyData.eqvAll]
    | cons y ys =>
      rw [List.map_cons, List.map_cons, PyData.eqvAll, PyData.eqv, ih, Bool.eq_iff_iff]
      simp
section
variable {ι : Type} {X : ι → Cx} {K : PySem.W.Frag} {E : Ent} {B : Hp} {Γ Γ' : Slots} {R R' R1 R2' R3 : List Res} {sts : List Stmt} {D : Ends} {S S' H H' : Hp} {σ σ' : L2.St}
/-- nothing of one's own (where something has become lasting) -/
def rE : Res := ⟨fun K S O => O = fun _ => none, fun _ h => h⟩
theorem SR.freezeAt {p : Addr} {ds : List PyData} (q : SR K E Γ R S σ H) (k : Nat) (hk : R[k]? = some (rL p ds)) : ∃ S', Same S S' ∧ SR K E Γ (R.set k rE) S' σ H ∧ Da K S' (.ref p) (.list ds) := by
  obtain ⟨Os, ⟨h1, h2⟩, h3⟩ := q.own
  obtain ⟨O, e1, ⟨⟨vs, hO, hv⟩, gs, gn⟩, g4⟩ := all2_split h1 hk
  subst hO
  have hop := hOne_same (p := p) (o := .lst vs)
  have hp : H p = some (.lst vs) := gs p _ hOne_same
  have sp : S p = none := gn p (by rw [hOne_same]; exact fun z => nomatch z)
  have others : ∀ (j : Nat) O', j ≠ k → Os[j]? = some O' → O' p = none := fun j O' hj e => disj_symm (pairwise_get h2 (fun _ _ => disj_symm) hj e e1) p (by rw [hop]; exact fun z => nomatch z)
  refine ⟨upd S p (.lst vs), same_new sp, ⟨fun a u e => ?_, q.ext.trans (same_new sp), q.fr, fun a ha => ?_, ⟨Os.set k (fun _ => none), ⟨g4 (fun _ => none) _ rE ⟨rfl, fun a u e => (nomatch e), fun a ha => absurd rfl ha⟩ fun j x y hj e2 e3 b => ⟨x.mono (same_new sp) b.1, b.2.1, fun a ha => ?_⟩, ?_⟩, fun O hO a ha => ?_⟩,
    q.slots.imp fun s o h1 s' e => let ⟨v, e2, e3⟩ := h1 s' e; ⟨v, e2, s'.mono (same_new sp) e3⟩⟩, .lst upd_same (daAll_same (same_new sp) hv)⟩
  · by_cases ha : a = p
    · subst ha; rw [upd_same] at e; cases e; exact hp
    · rw [upd_ne ha] at e; exact q.sub a u e
  · by_cases e : a = p
    · subst e
      rcases h3 _ (List.mem_of_getElem? e1) a (by rw [hOne_same]; exact fun z => nomatch z) with z | z
      · exact .inr (.inr z)
      · exact .inr (.inl z)
    · rw [upd_ne e] at ha
      exact q.new a ha
  · have ne : a ≠ p := fun e => ha (by rw [e]; exact others j y hj e3)
    rw [upd_ne ne]
    exact b.2.2 a ha
  · exact pairwise_set (fun _ _ => disj_symm) h2 fun j O' hj e a ha => rfl
  · rcases List.mem_or_eq_of_mem_set hO with z | z
    · exact h3 O z a ha
    · subst z
      exact absurd rfl ha
/-- a list of one's own becomes lasting -/
theorem blk_frz (j k : Nat) {p : Addr} {ds : List PyData} (hr : Blk X K E B (Γ.set j (some (sd (.list ds)))) (R.set k rE) sts D) (hk : R[k]? = some (rL p ds) := by rfl) (hj : Γ[j]? = some (some (sv (.ref p))) := by rfl) : Blk X K E B Γ R sts D := by
  obtain ⟨t, h1, h2⟩ := hr
  refine ⟨t, h1, fun S σ H b q => ?_⟩
  obtain ⟨S', e, q', hd⟩ := q.freezeAt k hk
  refine h2 S' σ H (b.trans e) ?_
  obtain ⟨v, e2, r2⟩ := q.slot hj
  cases (show v = .ref p from r2)
  have := q'.setSlot (k := j) (v := .ref p) (s := sd (.list ds)) hd
  rwa [show σ.set j (some (.ref p)) = σ from ?_] at this
  apply List.ext_getElem?
  intro m
  by_cases hm : j = m
  · subst hm
    obtain ⟨hl, he⟩ := List.getElem?_eq_some_iff.mp e2
    rw [List.getElem?_set_self hl, e2]
  · rw [List.getElem?_set_ne hm]
theorem zip_ints {ns ms : List Int} : (((ns.map PyData.int).zip (ms.map PyData.int)).map fun x => stup [sl x.1, sl x.2]) = (ns.zip ms).map fun x => stup [dI x.1, dI x.2] := by
  rw [List.zip_map, List.map_map]
  rfl
variable {P : Program} {w : World} {mg : Str → Option Value} {base : Heap} {A : Around} {N : List Str} {e : Expr} {pos : Pos} {rest : List Stmt} {s : Sl}
theorem blk_asgE (F : Fam X P w K mg base A N) (k : Nat) (s' : Sl) {x : Str} {pos' : Pos} (he : EvJ X K E Γ R e R1 s) (hs' : s = s') (hr : Blk X K E B (Γ.set k (some s')) R1 rest D) (hi : N[k]? = some x := by rfl) (hx : ∀ i, Loc (X i).env.scope x := by first | exact fun _ => Or.inl rfl | exact fun _ => Or.inr rfl)
    (hs : ∀ i, swapsWith e (some (.Name x pos')) pos.line (X i).env = pure false := by exact fun _ => rfl) (hf : ∀ i, (X i).fn x = true ∨ (X i).env.scope.names.lookup x = some .local := by first | exact fun _ => Or.inl rfl | exact fun _ => Or.inr rfl) : Blk X K E B Γ R (.Assign [.Name x pos'] e pos :: rest) D := by
  subst hs'
  exact blk_asg F k he hr hi hx hs hf
theorem blk_endE (hR : R = R') (h : All2 WkS Γ' Γ) (hD : D.nx = Pst K E B Γ' R') : Blk X K E B Γ R [] D := by
  subst hR
  exact blk_end (wkG h) hD
theorem wkE (hR : R = R') (h : All2 WkS Γ' Γ) : ∀ S σ H, SR K E Γ R S σ H → SR K E Γ' R' S σ H := by
  subst hR
  exact wkG h
/-- one of the own things alone -/
theorem SR.pick (q : SR K E Γ R S σ H) (k : Nat) {ρ : Res} (hk : R[k]? = some ρ) : SR K E Γ [ρ] S σ H := by
  obtain ⟨Os, ⟨h1, h2⟩, h3⟩ := q.own
  obtain ⟨O, e1, g, _⟩ := all2_split h1 hk
  exact ⟨q.sub, q.ext, q.fr, q.new, ⟨[O], ⟨.cons g .nil, List.pairwise_singleton _ _⟩, fun O' hO => by rw [List.mem_singleton.mp hO]; exact h3 O (List.mem_of_getElem? e1)⟩, q.slots⟩
theorem retK (k : Nat) {p : Addr} {ds ds' : List PyData} {Q : VK} (hq : RetOk (ν := Addr) K E (fun p => [rL p ds]) (fun p => sv (.ref p)) Q) (h : ds' = ds) (hk : R1[k]? = some (rL p ds') := by rfl) : ∀ S σ H v, SR K E Γ R1 S σ H → (sv (.ref p)).r K S v → Q v H := fun S σ H v q r => by
  subst h
  exact hq p Γ S σ H v (q.pick k hk) r
theorem retLK {ds ds' : List PyData} {Q : VK} (hq : RetOk (ν := Addr) K E (fun p => [rL p ds]) (fun p => sv (.ref p)) Q) (h : ds' = ds) : ∀ p S σ H v, SR K E Γ (R1 ++ [rL p ds']) S σ H → (sv (.ref p)).r K S v → Q v H := fun p S σ H v q r => by
  subst h
  exact hq p Γ S σ H v (q.pick R1.length (by simp)) r
theorem atI_rng {α : Type} {f : Nat → α} {n x : Nat} (h : x < n) : atI ((List.range n).map f) (x : Int) = some (f x) := by
  refine atI_nat ?_
  rw [List.getElem?_map, List.getElem?_range h]
  rfl
theorem menu_all {α : Type} {Q : α → Prop} {d : α} : ∀ {xs : List α} {n : Nat}, (∀ x ∈ xs, Q x) → n < xs.length → Q (xs.getD n d)
  | x :: xs, 0, h, _ => h x (List.mem_cons_self ..)
  | x :: xs, n + 1, h, hn => menu_all (xs := xs) (n := n) (fun y hy => h y (List.mem_cons_of_mem _ hy)) (by simpa using hn)
theorem blkOk_at {Y : Cx} {scope : Scope} {own : List (Str × Nat)} (N : List Str) (sc : Scope) (hN : Y.N = N) (hs : Y.env.scope = sc) (h : blkC N sc scope own = true) : BlkOk Y.N Y.env.scope scope own := by
  subst hN hs
  exact blkOk_by h
/-- a comprehension, alone or assigned to a local name on its line -/
def LcJ (X : ι → Cx) (K : PySem.W.Frag) (E : Ent) (Γ : Slots) (R : List Res) (e : Expr) (R1 : List Res) (ds : List PyData) : Prop :=
  ∃ t : TE, (∀ i, PE (X i) e t) ∧ (∀ i (k : Nat) (y : Str) (py spos : Pos), (X i).N[k]? = some y → (X i).env.scope.names.lookup y = some .local → swapsWith e (some (.Name y py)) spos.line (X i).env = pure true → PS (X i) (.Assign [.Name y py] e spos) (tAsg t (gName k))) ∧
    ∀ S σ H (Q : VK), SR K E Γ R S σ H → (∀ n, Kont K E Γ (R1 ++ [rL n ds]) σ S (sv (.ref n)) Q) → t σ H Q
theorem lc_j {α : Type} {tg iter elt : Expr} {ifs : List Expr} {scope : Scope} {own : List (Str × Nat)} {C : List Res → Prop} {us : List Nat} {xs : List α} {it : α → Sl} {up : α → Slots → Slots} {k : α → Bool} {d : α → PyData} {se : α → Sl}
    (F : Fam X P w K mg base A N) (hi : ItJ X K E Γ R tg iter R1 (xs.map it) C) (ok : ∀ i, BlkOk (X i).N (X i).env.scope scope own)
    (htg : Fam (BX X scope) P w K mg base A N → TgA (BX X scope) K E tg it up us) (hu : ∀ j ∈ us, j ∈ own.map (·.2))
    (hC : ∀ D acc, C (R1 ++ [rL D acc])) (ht : Fam (BX X scope) P w K mg base A N → ∀ D acc, ∀ x ∈ xs, TsJ (BX X scope) K E (up x (wipeG Γ (own.map (·.2)))) (R1 ++ [rL D acc]) ifs (k x))
    (he : Fam (BX X scope) P w K mg base A N → ∀ D acc, ∀ x ∈ xs, k x = true → EvJ (BX X scope) K E (up x (wipeG Γ (own.map (·.2)))) (R1 ++ [rL D acc]) elt (R1 ++ [rL D acc]) (se x)) (hd : ∀ x ∈ xs, k x = true → ∀ K S v, (se x).r K S v → Da K S v (d x))
    (hz : xs.length ≤ 1000000) (hs : ∀ i x, foldedSetIterable iter (X i).env x = pure x := by exact fun _ _ => rfl) (hcm : ∀ i, (X i).calm = true := by exact fun _ => rfl) :
    LcJ X K E Γ R (.ListComp elt [⟨tg, iter, ifs, 0⟩] scope pos) R1 ((xs.filter k).map d) := by
  have htg := htg (fam_blk F)
  have ht := ht (fam_blk F)
  have he := he (fam_blk F)
  obtain ⟨wi, w1, w2⟩ := hi
  obtain ⟨g, t1, t2⟩ := htg
  have ht' := fun (n : { q : Addr × List PyData × α // q.2.2 ∈ xs }) => Classical.choose_spec (ht n.1.1 n.1.2.1 n.1.2.2 n.2)
  have he' := fun (n : { q : Addr × List PyData × α // q.2.2 ∈ xs ∧ k q.2.2 = true }) => Classical.choose_spec (he n.1.1 n.1.2.1 n.1.2.2 n.2.1 n.2.2)
  refine ⟨tLc wi g _ _ (own.map (·.2)), fun i => pe_lc (hcm i) (by rw [F.fN i]; exact F.nd) (w1 i) (ok i) (fun s H C cl fp => t1 ⟨i, s, H, C, cl, fp⟩) (fun s H C cl fp => pts_any fun n => (ht' n).1 ⟨i, s, H, C, cl, fp⟩) (fun s H C cl fp => pe_any fun n => (he' n).1 ⟨i, s, H, C, cl, fp⟩) (hs i), fun i k y py spos hy hyl hsw => ps_setLc (hcm i) (by rw [F.fN i]; exact F.nd) hy hyl hsw (w1 i) (ok i) (fun s H C cl fp => t1 ⟨i, s, H, C, cl, fp⟩) (fun s H C cl fp => pts_any fun n => (ht' n).1 ⟨i, s, H, C, cl, fp⟩) (fun s H C cl fp => pe_any fun n => (he' n).1 ⟨i, s, H, C, cl, fp⟩) (hs i), fun S σ H Q q kk => ?_⟩
  refine w2 S σ H _ q fun J S1 H1 e1 q1 hJ D hD => ?_
  refine ⟨fun n m H => m = xs.length - n ∧ n ≤ xs.length ∧ ∃ S', Same S1 S' ∧ SR K E Γ (R1 ++ [rL D (((xs.take n).filter k).map d)]) S' σ H, ⟨xs.length, by simp, Nat.zero_le _, S1, Same.refl _, q1.mine hD ⟨[], rfl, .nil⟩⟩, ?_⟩
  rintro n m H2 ⟨rfl, hn, S2, e2, q2⟩
  obtain ⟨g1, g2⟩ := hJ n _ _ S2 σ H2 e2 q2 (hC _ _)
  by_cases hlt : n < xs.length
  · have hx : xs[n]? = some xs[n] := List.getElem?_eq_getElem hlt
    have hm : xs[n] ∈ xs := List.getElem_mem hlt
    have htake : xs.take (n + 1) = xs.take n ++ [xs[n]] := by rw [List.take_succ, hx]; rfl
    obtain ⟨go, hy⟩ := g1 (it xs[n]) (by rw [List.getElem?_map, hx]; rfl)
    refine .inr ⟨go, fun H' => ∃ S', Same S1 S' ∧ SR K E Γ (R1 ++ [rL D (((xs.take (n + 1)).filter k).map d)]) S' σ H', fun H' h' => ⟨xs.length - (n + 1), by omega, rfl, hlt, h'⟩, fun x H' hx' => ?_⟩
    obtain ⟨S3, e3, q3, r3⟩ := hy x H' hx'
    apply t2 xs[n] _ _ S3 (wipe σ (own.map (·.2))) H' x _ (q3.reslot (wipe_slots _ q3.slots)) r3
    intro σ4 q4 o4 l4
    refine ⟨wipe_eq o4 l4 hu, ?_⟩
    refine ⟨⟨(D, ((xs.take n).filter k).map d, xs[n]), hm⟩, (ht' ⟨(D, ((xs.take n).filter k).map d, xs[n]), hm⟩).2 S3 σ4 H' _ q4 fun S5 H5 e5 q5 => ?_⟩
    have q5' : SR K E Γ (R1 ++ [rL D (((xs.take n).filter k).map d)]) S5 σ H5 := q5.reslot (slots_mono e5 q3.slots)
    cases hk : k xs[n] with
    | false =>
      refine iteF ⟨S5, (e2.trans e3).trans e5, ?_⟩
      rw [htake, List.filter_append, List.filter_cons, if_neg (by rw [hk]; exact Bool.false_ne_true), List.filter_nil, List.append_nil]
      exact q5'
    | true =>
      refine iteT ⟨⟨(D, ((xs.take n).filter k).map d, xs[n]), hm, hk⟩, (he' ⟨(D, ((xs.take n).filter k).map d, xs[n]), hm, hk⟩).2 S5 σ4 H5 _ q5 fun y S6 H6 e6 q6 r6 => ?_⟩
      have q6' : SR K E Γ (R1 ++ [rL D (((xs.take n).filter k).map d)]) S6 σ H6 := q6.reslot (slots_mono e6 q5'.slots)
      obtain ⟨O, ⟨acc, eO, hacc⟩, sO⟩ := q6'.res R1.length get_last
      subst eO
      refine ⟨acc, sO D _ hOne_same, ?_, S6, ((e2.trans e3).trans e5).trans e6, ?_⟩
      · rw [daAll_len hacc, List.length_map]
        have h1 := List.length_filter_le k (xs.take n)
        rw [List.length_take] at h1
        have : (sizeLine : Nat) = 16777216 := sizeLine_eq
        omega
      · rw [htake, List.filter_append, List.filter_cons, if_pos (by rw [hk]), List.filter_nil, List.map_append]
        have := q6'.putL R1.length get_last (daAll_app hacc (.cons (hd _ hm hk K S6 y r6) .nil))
        rw [set_last] at this
        exact this
  · have e : n = xs.length := by omega
    subst e
    rw [List.take_length] at q2
    exact .inl ⟨g2 (by rw [List.length_map]; exact Nat.le_refl _), kk D _ S2 H2 (e1.trans e2) q2 rfl⟩
theorem lc_el {ds : List PyData} (h : LcJ X K E Γ R e R1 ds) : EvL X K E Γ R e R1 ds := let ⟨t, h1, _, h3⟩ := h; ⟨t, h1, h3⟩
theorem blk_asgLc {elt : Expr} {gs : List Comprehension} {scope : Scope} {p2 : Pos} {ds : List PyData} (F : Fam X P w K mg base A N) (k : Nat) {y : Str} {py : Pos} (h : LcJ X K E Γ R (.ListComp elt gs scope p2) R1 ds) (hr : ∀ p, Blk X K E B (Γ.set k (some (sv (.ref p)))) (R1 ++ [rL p ds]) rest D)
    (hi : N[k]? = some y := by rfl) (hl : ∀ i, (X i).env.scope.names.lookup y = some .local := by exact fun _ => rfl) (hk : ∀ i, (X i).env.scope.kind = .function := by exact fun _ => rfl) (hp : (py.line == p2.line) = true := by rfl) (ha : (scope.names.any fun (n, k) => n == y && (k == .local || k == .cell)) = false := by decide +kernel) :
    Blk X K E B Γ R (.Assign [.Name y py] (.ListComp elt gs scope p2) pos :: rest) D := by
  obtain ⟨t, h1, h2, h3⟩ := h
  have hr' := fun n => Classical.choose_spec (hr n)
  refine ⟨tSeq (tAsg t (gName k)) _, fun i => pss_cons (h2 i k y py pos (by rw [F.fN i]; exact hi) (hl i) (sw_true (hk i) (hl i) hp ha)) (pss_any fun n => (hr' n).1 i), fun S σ H b q => ?_⟩
  exact h3 S σ H _ q fun n v S1 H1 e1 q1 r1 => ⟨n, (hr' n).2 S1 _ H1 (b.trans e1) (q1.setSlot k r1)⟩
theorem filt_true {α : Type} (xs : List α) : (xs.filter fun _ => true) = xs := List.filter_eq_self.mpr fun _ _ => rfl
/-- a block's end, with things of its own let go -/
theorem blk_endD {R2 : List Res} (hR : R = R' ++ R2) (h : All2 WkS Γ' Γ) (hD : D.nx = Pst K E B Γ' R') : Blk X K E B Γ R [] D := by
  subst hR
  exact blk_end (fun S σ H q => wkG h S σ H (SR.drop q)) hD
end
theorem cdivW {i j : Int} (h0 : 0 < j) (h1 : j < 4611686018427387904) : CDivW i j := by
  refine ⟨h0, ?_⟩
  have : j.natAbs.log2 < 62 := (Nat.log2_lt (by omega)).mpr (by omega)
  omega
theorem dint_ints (ns : List Int) : (ns.map PyData.int).map dint = ns := by
  rw [List.map_map]
  exact List.map_id' ns
theorem dstr_strs (ns : List Str) : (ns.map PyData.str).map dstr = ns := by
  rw [List.map_map]
  exact List.map_id' ns
theorem atI_ints {ns : List Int} {k : Nat} (h : k < ns.length) : atI (ns.map PyData.int) (k : Int) = some (.int (ns.getD k 0)) := by
  refine atI_nat ?_
  rw [List.getElem?_map, List.getD_eq_getElem?_getD, List.getElem?_eq_getElem h]
  rfl
theorem atI_strs {ns : List Str} {k : Nat} (h : k < ns.length) : atI (ns.map PyData.str) (k : Int) = some (.str (ns.getD k Str.empty)) := by
  refine atI_nat ?_
  rw [List.getElem?_map, List.getD_eq_getElem?_getD, List.getElem?_eq_getElem h]
  rfl
theorem getD_rng {α : Type} {f : Nat → α} {n x : Nat} {d : α} (h : x < n) : ((List.range n).map f).getD x d = f x := by
  rw [List.getD_eq_getElem?_getD, List.getElem?_map, List.getElem?_range h]
  rfl
theorem getD_mem {α : Type} {xs : List α} {x : Nat} {d : α} (h : x < xs.length) : xs.getD x d ∈ xs := by
  rw [List.getD_eq_getElem?_getD, List.getElem?_eq_getElem h]
  exact List.getElem_mem h
end SL

/-! dicts of one's own, by texts -/
namespace SL
open PySem PySem.Spec PyProof.Rows L2
/-! ### tables by texts -/
section
variable {β γ : Type}
def lk (l : List (Str × β)) (x : Str) : Option β := (l.find? fun a => decide (a.1 = x)).map (·.2)
def pt (l : List (Str × β)) (x : Str) (v : β) : List (Str × β) := if (l.any fun a => decide (a.1 = x)) = true then l.map (fun a => if a.1 = x then (a.1, v) else a) else l ++ [(x, v)]
def dr (l : List (Str × β)) (x : Str) : List (Str × β) := l.filter fun a => decide (a.1 ≠ x)
def onV (f : β → γ) (l : List (Str × β)) : List (Str × γ) := l.map fun a => (a.1, f a.2)
theorem lk_nil {x : Str} : lk ([] : List (Str × β)) x = none := rfl
theorem lk_pos {x y : Str} {v : β} {l : List (Str × β)} (e : y = x) : lk ((y, v) :: l) x = some v := by simp [lk, List.find?_cons, e]
theorem lk_neg {x y : Str} {v : β} {l : List (Str × β)} (e : ¬ y = x) : lk ((y, v) :: l) x = lk l x := by simp [lk, List.find?_cons, e]
theorem lk_onV (f : β → γ) : ∀ (l : List (Str × β)) (x : Str), lk (onV f l) x = (lk l x).map f
  | [], _ => rfl
  | (y, v) :: l, x => by
    by_cases e : y = x
    · rw [lk_pos e]
      show lk ((y, f v) :: onV f l) x = _
      rw [lk_pos e]; rfl
    · rw [lk_neg e]
      show lk ((y, f v) :: onV f l) x = _
      rw [lk_neg e]; exact lk_onV f l x
theorem any_onV (f : β → γ) (x : Str) : ∀ l : List (Str × β), ((onV f l).any fun a => decide (a.1 = x)) = l.any fun a => decide (a.1 = x)
  | [] => rfl
  | a :: l => by show (_ || (onV f l).any _) = _; rw [any_onV f x l]; rfl
theorem pt_onV (f : β → γ) (l : List (Str × β)) (x : Str) (v : β) : pt (onV f l) x (f v) = onV f (pt l x v) := by
  unfold pt
  rw [any_onV]
  split
  · simp only [onV, List.map_map]
    apply List.map_congr_left
    intro a _
    simp only [Function.comp]
    split <;> rfl
  · simp [onV]
theorem dr_onV (f : β → γ) (l : List (Str × β)) (x : Str) : dr (onV f l) x = onV f (dr l x) := by
  unfold dr onV
  rw [List.filter_map]
  rfl
theorem pt_len (l : List (Str × β)) (x : Str) (v : β) : (pt l x v).length ≤ l.length + 1 := by unfold pt; split <;> simp
theorem any_lk (x : Str) : ∀ l : List (Str × β), (l.any fun a => decide (a.1 = x)) = (lk l x).isSome
  | [] => rfl
  | (y, v) :: l => by
    by_cases e : y = x
    · rw [lk_pos e, List.any_cons]; simp [e]
    · rw [lk_neg e, List.any_cons, any_lk x l]; simp [e]
theorem pt_new {l : List (Str × β)} {x : Str} {v : β} (h : lk l x = none) : pt l x v = l ++ [(x, v)] := by
  unfold pt
  rw [any_lk, h]
  rfl
theorem lk_app {x : Str} : ∀ {l l' : List (Str × β)}, lk (l ++ l') x = (lk l x).or (lk l' x)
  | [], l' => by rw [lk_nil]; rfl
  | (y, v) :: l, l' => by
    by_cases e : y = x
    · rw [List.cons_append, lk_pos e, lk_pos e]; rfl
    · rw [List.cons_append, lk_neg e, lk_neg e]; exact lk_app
theorem lk_rep {x y : Str} {v : β} : ∀ l : List (Str × β), lk (l.map fun a => if a.1 = x then (a.1, v) else a) y = (lk l y).map fun u => if y = x then v else u
  | [] => rfl
  | (z, u) :: l => by
    rw [List.map_cons]
    by_cases ex : z = x
    · simp only [ex, if_true]
      by_cases ey : x = y
      · subst ey; rw [lk_pos rfl, lk_pos rfl]; simp
      · rw [lk_neg ey, lk_neg ey]; exact lk_rep l
    · simp only [ex, if_false]
      by_cases ey : z = y
      · rw [lk_pos ey, lk_pos ey]; simp [show ¬ y = x from fun h => ex (ey.trans h)]
      · rw [lk_neg ey, lk_neg ey]; exact lk_rep l
theorem lk_pt (l : List (Str × β)) (x y : Str) (v : β) : lk (pt l x v) y = if y = x then some v else lk l y := by
  unfold pt
  rw [any_lk]
  cases h : lk l x with
  | none =>
    rw [if_neg (by simp), lk_app]
    by_cases e : y = x
    · subst e; rw [h, lk_pos rfl, if_pos rfl]; rfl
    · rw [lk_neg (Ne.symm e), lk_nil, if_neg e]; simp
  | some u =>
    rw [if_pos (by simp), lk_rep]
    by_cases e : y = x
    · subst e; rw [h]; simp
    · simp [e]
end
/-- what a dict's pairs are -/
def KRs (K : PySem.W.Frag) (S : Hp) (kss : List (Str × Sl)) (kvs : List (Key × V)) : Prop := All2 (fun (a : Str × Sl) (b : Key × V) => b.1 = .inr a.1 ∧ a.2.r K S b.2) kss kvs
theorem KRs.mono {K : PySem.W.Frag} {S S' : Hp} {kss : List (Str × Sl)} {kvs : List (Key × V)} (e : Same S S') (h : KRs K S kss kvs) : KRs K S' kss kvs := h.imp fun a b g => ⟨g.1, a.2.mono e g.2⟩
theorem KRs.len {K : PySem.W.Frag} {S : Hp} {kss : List (Str × Sl)} {kvs : List (Key × V)} (h : KRs K S kss kvs) : kss.length = kvs.length := All2.len h
theorem KRs.val {K : PySem.W.Frag} {S : Hp} (x : Str) : ∀ {kss : List (Str × Sl)} {kvs : List (Key × V)}, KRs K S kss kvs → (lk kss x = none ∧ valV kvs (.inr x) = none) ∨ ∃ s v, lk kss x = some s ∧ valV kvs (.inr x) = some v ∧ s.r K S v
  | _, _, .nil => .inl ⟨rfl, rfl⟩
  | _, _, .cons (a := a) (b := b) ⟨h1, h2⟩ r => by
    obtain ⟨y, s⟩ := a
    obtain ⟨k, v⟩ := b
    subst h1
    by_cases e : y = x
    · subst e
      exact .inr ⟨s, v, lk_pos rfl, valV_pos rfl, h2⟩
    · rw [lk_neg e, valV_neg (fun z => e (Sum.inr.inj z))]
      exact KRs.val x r
theorem KRs.any {K : PySem.W.Frag} {S : Hp} (x : Str) {kss : List (Str × Sl)} {kvs : List (Key × V)} (h : KRs K S kss kvs) : (kss.any fun a => decide (a.1 = x)) = kvs.any fun kv => decide (kv.1 = .inr x) := by
  rw [any_lk, valV_any]
  rcases h.val x with ⟨a, b⟩ | ⟨s, v, a, b, _⟩ <;> rw [a, b] <;> rfl
theorem KRs.rep {K : PySem.W.Frag} {S : Hp} {s : Sl} {v : V} (x : Str) (hv : s.r K S v) : ∀ {kss : List (Str × Sl)} {kvs : List (Key × V)}, KRs K S kss kvs → KRs K S (kss.map fun a => if a.1 = x then (a.1, s) else a) (kvs.map fun kv => if kv.1 = .inr x then (kv.1, v) else kv)
  | _, _, .nil => .nil
  | _, _, .cons (a := a) (b := b) ⟨h1, h2⟩ r => by
    obtain ⟨y, t⟩ := a
    obtain ⟨k, u⟩ := b
    subst h1
    refine .cons ?_ (KRs.rep x hv r)
    by_cases e : y = x
    · subst e; simp; exact hv
    · have e' : ¬ (Sum.inr y : Key) = .inr x := fun z => e (Sum.inr.inj z)
      simp [e, e']; exact h2
theorem KRs.put {K : PySem.W.Frag} {S : Hp} {s : Sl} {v : V} (x : Str) (hv : s.r K S v) {kss : List (Str × Sl)} {kvs : List (Key × V)} (h : KRs K S kss kvs) : KRs K S (pt kss x s) (putK kvs (.inr x) v) := by
  unfold pt putK
  rw [h.any x]
  split
  · exact h.rep x hv
  · exact All2.app h (.cons ⟨rfl, hv⟩ .nil)
theorem KRs.drop {K : PySem.W.Frag} {S : Hp} (x : Str) : ∀ {kss : List (Str × Sl)} {kvs : List (Key × V)}, KRs K S kss kvs → KRs K S (dr kss x) (dropK kvs (.inr x))
  | _, _, .nil => .nil
  | _, _, .cons (a := a) (b := b) ⟨h1, h2⟩ r => by
    obtain ⟨y, t⟩ := a
    obtain ⟨k, u⟩ := b
    subst h1
    have ih := KRs.drop x r
    unfold dr dropK at ih ⊢
    by_cases e : y = x
    · subst e; simpa using ih
    · have e' : ¬ (Sum.inr y : Key) = .inr x := fun z => e (Sum.inr.inj z)
      rw [List.filter_cons_of_pos (by simpa using e), List.filter_cons_of_pos (by simpa using e')]
      exact .cons ⟨rfl, h2⟩ ih
/-- a dict at p -/
def rDs (p : Addr) (kss : List (Str × Sl)) : Res := ⟨fun K S O => ∃ kvs, O = hOne p (.dK kvs) ∧ KRs K S kss kvs, fun e ⟨kvs, h1, h2⟩ => ⟨kvs, h1, h2.mono e⟩⟩
/-- the same while it is walked -/
def rDz (p : Addr) (od : Obj) (kvs : List (Key × V)) (kss : List (Str × Sl)) : Res := ⟨fun K S O => O = hOne p (.frz od (.dK kvs)) ∧ KRs K S kss kvs, fun e ⟨h1, h2⟩ => ⟨h1, h2.mono e⟩⟩
section
variable {ι : Type} {X : ι → Cx} {K : PySem.W.Frag} {E : Ent} {B : Hp} {Γ Γ' : Slots} {R R' R1 R2' R3 : List Res} {a b c e o : Expr} {es : List Expr} {pos p' : Pos} {s s1 s2 s3 : Sl}
  {P : Program} {w : World} {mg : Str → Option Value} {base : Heap} {A : Around} {N : List Str} {rest sts : List Stmt} {D : Ends} {S S' H H' : Hp} {σ σ' : L2.St} {f : Str} {ps : List Str} {i j : Int} {x y : Str}
/-- what s says is a dict -/
def DcV (K : PySem.W.Frag) (R : List Res) (s : Sl) (kss : List (Str × Sl)) : Prop := ∀ (E : Ent) (Γ : Slots) (S : Hp) (σ : L2.St) (H : Hp) (v : V), SR K E Γ R S σ H → s.r K S v → ∃ p kvs, v = .ref p ∧ Rd H p (.dK kvs) ∧ KRs K S kss kvs
theorem dc_o (k : Nat) {p : Addr} {kss : List (Str × Sl)} (h : R[k]? = some (rDs p kss)) : DcV K R (sv (.ref p)) kss := fun E Γ S σ H v q r => by
  cases (show v = .ref p from r)
  obtain ⟨O, ⟨kvs, e, h1⟩, h2⟩ := q.res k h
  subst e
  exact ⟨p, kvs, rfl, .inl (h2 p _ hOne_same), h1⟩
theorem dc_z (k : Nat) {p : Addr} {od : Obj} {kvs : List (Key × V)} {kss : List (Str × Sl)} (h : R[k]? = some (rDz p od kvs kss)) : DcV K R (sv (.ref p)) kss := fun E Γ S σ H v q r => by
  cases (show v = .ref p from r)
  obtain ⟨O, ⟨e, h1⟩, h2⟩ := q.res k h
  subst e
  exact ⟨p, kvs, rfl, .inr ⟨od, h2 p _ hOne_same⟩, h1⟩
theorem SR.cellD (q : SR K E Γ R S σ H) (k : Nat) {p : Addr} {kss : List (Str × Sl)} (h : R[k]? = some (rDs p kss)) : ∃ kvs, H p = some (.dK kvs) ∧ KRs K S kss kvs := by
  obtain ⟨O, ⟨kvs, e, h1⟩, h2⟩ := q.res k h
  subst e
  exact ⟨kvs, h2 p _ hOne_same, h1⟩
theorem SR.putD (q : SR K E Γ R S σ H) (k : Nat) {p : Addr} {kss kss' : List (Str × Sl)} {kvs' : List (Key × V)} (hk : R[k]? = some (rDs p kss)) (h2 : KRs K S kss' kvs') : SR K E Γ (R.set k (rDs p kss')) S σ (upd H p (.dK kvs')) :=
  q.put k hk (fun O ⟨kvs, e, _⟩ => ⟨_, e⟩) ⟨kvs', rfl, h2⟩
theorem rd_get {K : PySem.W.Frag} {S H : Hp} {p : Addr} {kvs : List (Key × V)} {kss : List (Str × Sl)} (hr : Rd H p (.dK kvs)) (h : KRs K S kss kvs) (x : Str) : DGet H p (.str x) (valV kvs (.inr x)) := .inl ⟨kvs, .inr x, hr, rfl, rfl⟩
/-! reading -/
def rIxD : R2 := fun x y H Q => ∃ a v, x = .ref a ∧ DGet H a y (some v) ∧ Q v H
theorem ix_dict {X : Cx} (hu : X.A.units + 64 < cLine) : IxR X rIxD := by
  intro value slice pins s σ H x y v u Q I rx ry h hs
  obtain ⟨a, z, rfl, g, q⟩ := h
  obtain rfl : v = Value.ref a := rx
  exact tail_any (dict_typeIs I g) PySem.F.slot_dict_getitem.lookup (d_getItem (by omega) I g ry fun w' s' I' r' => ⟨z, H, I', r', q⟩) hs
theorem ix_dct {k : Nat} (F : Fam X P w K mg base A N) (hr : Room k A) {kss : List (Str × Sl)} (h : DcV K R s1 kss) (hi : lk kss x = some s) : IxJ X K E R s1 (dS x) s :=
  ⟨rIxD, fun n => ix_dict (by rw [F.fA n]; exact hr.units), fun Γ S σ H u y Q q r1 r2 k => by
    cases (show y = .str x from r2)
    obtain ⟨p, kvs, rfl, h1, h2⟩ := h E Γ S σ H u q r1
    rcases h2.val x with ⟨e, _⟩ | ⟨t, v, e1, e2, e3⟩
    · rw [hi] at e; cases e
    · rw [hi] at e1
      cases e1
      exact ⟨p, v, rfl, by rw [← e2]; exact rd_get h1 h2 x, k v S H (Same.refl _) q e3⟩⟩
def rInDc : R2 := fun y x H Q => ∃ a o, x = .ref a ∧ DGet H a y o ∧ Q (.bl o.isSome) H
def rNinDc : R2 := fun y x H Q => ∃ a o, x = .ref a ∧ DGet H a y o ∧ Q (.bl (!o.isSome)) H
theorem op_inDc {X : Cx} (hu : X.A.units + 64 < cLine) : OpR X (compareOp .In) rInDc := by
  intro pins s σ H y x v u Q I ry rx h
  obtain ⟨a, o, rfl, g, q⟩ := h
  obtain rfl : u = Value.ref a := rx
  exact d_in (by omega) I g ry fun s' I' => ⟨.bl o.isSome, H, I', rfl, q⟩
theorem op_ninDc {X : Cx} (hu : X.A.units + 64 < cLine) : OpR X (compareOp .NotIn) rNinDc := by
  intro pins s σ H y x v u Q I ry rx h
  obtain ⟨a, o, rfl, g, q⟩ := h
  obtain rfl : u = Value.ref a := rx
  exact d_notIn (by omega) I g ry fun s' I' => ⟨.bl (!o.isSome), H, I', rfl, q⟩
theorem KRs.some_eq {K : PySem.W.Frag} {S : Hp} {kss : List (Str × Sl)} {kvs : List (Key × V)} (h : KRs K S kss kvs) (x : Str) : (valV kvs (.inr x)).isSome = (lk kss x).isSome := by
  rcases h.val x with ⟨a, b⟩ | ⟨s, v, a, b, _⟩ <;> rw [a, b] <;> rfl
theorem br_inD {k : Nat} (F : Fam X P w K mg base A N) (hr : Room k A) {kss : List (Str × Sl)} (h : DcV K R s2 kss) : BinR X K E (compareOp .In) R (dS x) s2 (dB (lk kss x).isSome) :=
  ⟨rInDc, fun n => op_inDc (by rw [F.fA n]; exact hr.units), fun Γ S σ H u y Q q r1 r2 k => by
    cases (show u = .str x from r1)
    obtain ⟨p, kvs, rfl, h1, h2⟩ := h E Γ S σ H y q r2
    exact ⟨p, _, rfl, rd_get h1 h2 x, k _ S H (Same.refl _) q (by rw [h2.some_eq]; rfl)⟩⟩
theorem br_ninD {k : Nat} (F : Fam X P w K mg base A N) (hr : Room k A) {kss : List (Str × Sl)} (h : DcV K R s2 kss) : BinR X K E (compareOp .NotIn) R (dS x) s2 (dB (!(lk kss x).isSome)) :=
  ⟨rNinDc, fun n => op_ninDc (by rw [F.fA n]; exact hr.units), fun Γ S σ H u y Q q r1 r2 k => by
    cases (show u = .str x from r1)
    obtain ⟨p, kvs, rfl, h1, h2⟩ := h E Γ S σ H y q r2
    exact ⟨p, _, rfl, rd_get h1 h2 x, k _ S H (Same.refl _) q (by rw [h2.some_eq]; rfl)⟩⟩
theorem cl_lenD {kss : List (Str × Sl)} {p : Addr} (k : Nat) (h : R[k]? = some (rDs p kss)) : ClJ X K E (.builtin "len") R [sv (.ref p)] (dI kss.length) :=
  ⟨_, fun n => call_lenD, fun Γ S σ H vs Q q r k' => by
    obtain ⟨v, rfl, r1⟩ := all2_one r
    cases (show v = .ref p from r1)
    obtain ⟨kvs, h1, h2⟩ := q.cellD k h
    exact ⟨p, kvs, rfl, h1, k' _ S H (Same.refl _) q (by rw [← h2.len]; rfl)⟩⟩
/-- list(d) -/
theorem cl_listD (F : Fam X P w K mg base A N) {kss : List (Str × Sl)} (h : DcV K R s1 kss) (hcm : ∀ i, (X i).calm = true := by exact fun _ => rfl) : ClN X K E (.type "list") R [s1] (fun p : Addr => R ++ [rL p (kss.map fun a => .str a.1)]) (fun p => sv (.ref p)) :=
  ⟨_, fun n => call_listD (hcm n), fun Γ S σ H vs Q q r k => by
    obtain ⟨v, rfl, r1⟩ := all2_one r
    obtain ⟨p, kvs, rfl, h1, h2⟩ := h E Γ S σ H v q r1
    refine ⟨p, kvs, rfl, h1, fun l hl => k l _ S _ (Same.refl _) (q.mine hl ⟨_, rfl, ?_⟩) rfl⟩
    clear h q r k r1 h1 hl
    induction h2 with
    | nil => exact .nil
    | cons g t ih =>
      refine .cons ?_ ih
      show Da K S (kV _) _
      rw [g.1]
      exact .str _⟩
/-- dict(d) -/
theorem cl_dictD (F : Fam X P w K mg base A N) {kss : List (Str × Sl)} (h : DcV K R s1 kss) : ClN X K E (.type "dict") R [s1] (fun p : Addr => R ++ [rDs p kss]) (fun p => sv (.ref p)) :=
  ⟨_, fun n => call_dictD, fun Γ S σ H vs Q q r k => by
    obtain ⟨v, rfl, r1⟩ := all2_one r
    obtain ⟨p, kvs, rfl, h1, h2⟩ := h E Γ S σ H v q r1
    exact ⟨p, kvs, rfl, h1, fun l hl => k l _ S _ (Same.refl _) (q.mine hl ⟨kvs, rfl, h2⟩) rfl⟩⟩
/-! writing -/
theorem blk_put {n : Nat} (F : Fam X P w K mg base A N) (hr : Room n A) (k : Nat) {p : Addr} {kss : List (Str × Sl)} {p2 : Pos} {value i : Expr} (hv : EvJ X K E Γ R value R1 s) (ho : EvJ X K E Γ R1 o R1 (sv (.ref p))) (hi : EvJ X K E Γ R1 i R1 (dS x)) (hk : R1[k]? = some (rDs p kss)) (hz : kss.length < 10000000)
    (hr' : Blk X K E B Γ (R1.set k (rDs p (pt kss x s))) rest D) (hs : ∀ j, swapsWith value (some (.Subscript o i p2)) pos.line (X j).env = pure false := by exact fun _ => rfl) :
    Blk X K E B Γ R (.Assign [.Subscript o i p2] value pos :: rest) D := by
  obtain ⟨tv, v1, v2⟩ := hv
  obtain ⟨to, o1, o2⟩ := ho
  obtain ⟨ti, i1, i2⟩ := hi
  obtain ⟨u, g1, g2⟩ := hr'
  refine ⟨tSeq (sDPut to ti tv) u, fun j => pss_cons (ps_dput (by rw [F.fA j]; have := hr.units; omega) (o1 j) (i1 j) (v1 j) (hs j)) (g1 j), fun S σ H b q => ?_⟩
  refine v2 S σ H _ q fun v S1 H1 e1 q1 r1 => o2 S1 σ H1 _ q1 fun vo S2 H2 e2 q2 r2 => i2 S2 σ H2 _ q2 fun vi S3 H3 e3 q3 r3 => ?_
  cases (show vo = .ref p from r2)
  cases (show vi = .str x from r3)
  obtain ⟨kvs, h1, h2⟩ := q3.cellD k hk
  have hlen := h2.len
  refine ⟨p, _, rfl, DPut.k (k := .inr x) h1 ?_, g2 S3 σ _ (b.trans ((e1.trans e2).trans e3)) (q3.putD k hk (h2.put x (s.mono (e2.trans e3) r1)))⟩
  have : (sizeLine : Nat) = 16777216 := sizeLine_eq
  omega
/-! new -/
theorem el_dict0 : EvN X K E Γ R (.Dict [] [] pos) (fun p : Addr => R ++ [rDs p []]) (fun p => sv (.ref p)) :=
  ⟨tDNewK, fun _ => pe_dnewK, fun S σ H Q q k p hp => k p _ S _ (Same.refl _) (q.mine hp ⟨[], rfl, .nil⟩) rfl⟩
/-- an element of something new -/
theorem ev_ixN {ν : Type} {Rn : ν → List Res} {sn : ν → Sl} (ha : EvN X K E Γ R a (fun n => R1 ++ Rn n) sn) (hb : ∀ n, EvJ X K E Γ (R1 ++ Rn n) b (R1 ++ Rn n) s2) (ho : ∀ n, IxJ X K E (R1 ++ Rn n) (sn n) s2 s3) (hp : PlainIx b := by exact fun _ _ => rfl) : EvJ X K E Γ R (.Subscript a b pos) R1 s3 := by
  obtain ⟨ta, a1, a2⟩ := ha
  have hb' := fun n => Classical.choose_spec (hb n)
  have ho' := fun n => Classical.choose_spec (ho n)
  refine ⟨tOp (fun x y H Q => ∃ n, Classical.choose (ho n) x y H Q) ta _, fun i => pe_ix (fun value slice pins s σ H x y v u Q I rx ry ⟨n, h⟩ hs => (ho' n).1 i value slice pins s σ H x y v u Q I rx ry h hs) (a1 i) (pe_any fun n => (hb' n).1 i) hp, fun S σ H Q q k => ?_⟩
  refine a2 S σ H _ q fun n x S1 H1 e1 q1 r1 => ⟨n, (hb' n).2 S1 σ H1 _ q1 fun y S2 H2 e2 q2 r2 => ⟨n, ?_⟩⟩
  exact (ho' n).2 Γ S2 σ H2 x y Q q2 ((sn n).mono e2 r1) r2 fun v S3 H3 e3 q3 r3 => k v S3 H3 ((e1.trans e2).trans e3) q3.drop r3
/-- the pairs of a display -/
def PpJ {ν : Type} (X : ι → Cx) (K : PySem.W.Frag) (E : Ent) (Γ : Slots) (R : ν → List Res) (pos : Pos) (ks : List (Option Expr)) (vs : List Expr) (R' : ν → List Res) (kss : List (Str × Sl)) : Prop :=
  ∃ trs : List (TE × TE), (∀ i, PPs (X i) pos ks vs trs) ∧ ∀ n S σ H (Q : List (V × V) → Hp → Prop), SR K E Γ (R n) S σ H → (∀ kvs S' H', Same S S' → SR K E Γ (R' n) S' σ H' → KRs K S' kss kvs → Q (kvs.map fun kv => (kV kv.1, kv.2)) H') → tPairs trs σ H Q
theorem pp_nil {ν : Type} {R : ν → List Res} : PpJ X K E Γ R pos [] [] R [] := ⟨[], fun _ => pps_nil, fun n S σ H Q q k => k [] S H (Same.refl _) q .nil⟩
theorem pp_cons {ν : Type} {R R1 R2' : ν → List Res} {ks : List (Option Expr)} {vs : List Expr} {kss : List (Str × Sl)} (hk : ∀ n, EvJ X K E Γ (R n) a (R n) (dS x)) (hv : ∀ n, EvJ X K E Γ (R n) b (R1 n) s) (hr : PpJ X K E Γ R1 pos ks vs R2' kss) : PpJ X K E Γ R pos (some a :: ks) (b :: vs) R2' ((x, s) :: kss) := by
  have hk' := fun n => Classical.choose_spec (hk n)
  have hv' := fun n => Classical.choose_spec (hv n)
  obtain ⟨tr, r1, r2⟩ := hr
  refine ⟨(_, _) :: tr, fun i => pps_cons (pe_any fun n => (hk' n).1 i) (pe_any fun n => (hv' n).1 i) (r1 i), fun n S σ H Q q k => ⟨n, (hk' n).2 S σ H _ q fun v S1 H1 e1 q1 g1 => ⟨n, (hv' n).2 S1 σ H1 _ q1 fun u S2 H2 e2 q2 g2 => r2 n S2 σ H2 _ q2 fun kvs S3 H3 e3 q3 g3 => ?_⟩⟩⟩
  cases (show v = .str x from g1)
  exact k ((.inr x, u) :: kvs) S3 H3 ((e1.trans e2).trans e3) q3 (.cons ⟨rfl, s.mono e3 g2⟩ g3)
def mergeS (kss more : List (Str × Sl)) : List (Str × Sl) := more.foldl (fun acc a => pt acc a.1 a.2) kss
theorem KRs.merge {K : PySem.W.Frag} {S : Hp} : ∀ {more : List (Str × Sl)} {mv : List (Key × V)} {kss : List (Str × Sl)} {kvs : List (Key × V)}, KRs K S more mv → KRs K S kss kvs → KRs K S (mergeS kss more) (mergeK kvs mv)
  | _, _, _, _, .nil, h => h
  | _, _, kss, kvs, .cons (a := a) (b := b) (as := as) (bs := bs) ⟨h1, h2⟩ r, h => by
    obtain ⟨y, t⟩ := a
    obtain ⟨k, u⟩ := b
    subst h1
    have r' : KRs K S as bs := r
    show KRs K S (mergeS (pt kss y t) as) (mergeK (putK kvs (.inr y) u) bs)
    exact KRs.merge r' (h.put y h2)
/-- a display -/
theorem el_disp {Rn : Addr → List Res} {ks : List (Option Expr)} {vs : List Expr} {kss : List (Str × Sl)} (h : PpJ X K E Γ (fun p => R ++ [rDs p []]) pos ks vs (fun p => R ++ (rDs p [] :: Rn p)) kss) (hall : ks.all (·.isSome) = true := by rfl) (hl : ks.length = vs.length := by rfl) (h0 : ks ≠ [] := by exact fun h => nomatch h) (h15 : ks.length ≤ 15 := by exact Nat.le_of_ble_eq_true rfl) (hz : kss.length ≤ 15 := by exact Nat.le_of_ble_eq_true rfl) :
    EvN X K E Γ R (.Dict ks vs pos) (fun p : Addr => R ++ (rDs p (mergeS [] kss) :: Rn p)) (fun p => sv (.ref p)) := by
  obtain ⟨trs, h1, h2⟩ := h
  refine ⟨tDisp trs, fun i => pe_disp (h1 i) hall hl h0 h15, fun S σ H Q q k p hp => ?_⟩
  refine h2 p S σ _ _ (q.mine hp ⟨[], rfl, .nil⟩) fun kvs S1 H1 e1 q1 g1 => ?_
  have hk : (R ++ (rDs p [] :: Rn p))[R.length]? = some (rDs p []) := by simp
  obtain ⟨kvs0, c1, c2⟩ := q1.cellD R.length hk
  cases c2
  refine ⟨c1, kvs, rfl, by rw [← g1.len]; exact hz, ?_⟩
  have q2 := q1.putD R.length hk (KRs.merge g1 (show KRs K S1 [] [] from .nil))
  have e : (R ++ (rDs p [] :: Rn p)).set R.length (rDs p (mergeS [] kss)) = R ++ (rDs p (mergeS [] kss) :: Rn p) := by simp
  rw [e] at q2
  exact k p (.ref p) S1 _ e1 q2 rfl
/-! locked while it is walked -/
theorem SR.lock (q : SR K E Γ R S σ H) (m : Nat) {p : Addr} {kss : List (Str × Sl)} (hk : R[m]? = some (rDs p kss)) : ∃ kvs, H p = some (.dK kvs) ∧ ∀ od, SR K E Γ (R.set m (rDz p od kvs kss)) S σ (upd H p (.frz od (.dK kvs))) := by
  obtain ⟨kvs, h1, h2⟩ := q.cellD m hk
  exact ⟨kvs, h1, fun od => q.put m hk (fun O ⟨kvs, e, _⟩ => ⟨_, e⟩) ⟨rfl, h2⟩⟩
theorem SR.unlock (q : SR K E Γ R S σ H) (m : Nat) {p : Addr} {od : Obj} {kvs : List (Key × V)} {kss : List (Str × Sl)} (hk : R[m]? = some (rDz p od kvs kss)) : H p = some (.frz od (.dK kvs)) ∧ SR K E Γ (R.set m (rDs p kss)) S σ (upd H p (.dK kvs)) := by
  obtain ⟨O, ⟨e, h1⟩, h2⟩ := q.res m hk
  subst e
  exact ⟨h2 p _ hOne_same, q.put m hk (fun O ⟨e, _⟩ => ⟨_, e⟩) ⟨kvs, rfl, h1⟩⟩
theorem set_back {α : Type} {l : List α} {m : Nat} {x y : α} (h : l[m]? = some x) : (l.set m y).set m x = l := by
  rw [List.set_set]
  apply List.ext_getElem?
  intro j
  by_cases e : m = j
  · subst e
    obtain ⟨hl, he⟩ := List.getElem?_eq_some_iff.mp h
    rw [List.getElem?_set_self hl, h]
  · rw [List.getElem?_set_ne e]
theorem ev_lock {ν : Type} {Rn : ν → List Res} {sn : ν → Sl} (m : Nat) {p : Addr} {kss : List (Str × Sl)} (hk : R[m]? = some (rDs p kss)) (h : ∀ od kvs, EvN X K E Γ (R.set m (rDz p od kvs kss)) e (fun n => (Rn n).set m (rDz p od kvs kss)) sn) (hm : ∀ n, (Rn n)[m]? = some (rDs p kss)) : EvN X K E Γ R e Rn sn := by
  have h' := fun (z : Obj × List (Key × V)) => Classical.choose_spec (h z.1 z.2)
  refine ⟨tLockE fun σ H Q => ∃ z, Classical.choose (h z.1 z.2) σ H Q, fun i => pe_lock (pe_any fun z => (h' z).1 i), fun S σ H Q q k => ?_⟩
  obtain ⟨kvs, h1, h2⟩ := q.lock m hk
  refine ⟨p, .dK kvs, h1, trivial, fun od => ⟨(od, kvs), (h' (od, kvs)).2 S σ _ _ (h2 od) fun n v S1 H1 e1 q1 r1 => ?_⟩⟩
  have hm1 : ((Rn n).set m (rDz p od kvs kss))[m]? = some (rDz p od kvs kss) := List.getElem?_set_self (List.getElem?_eq_some_iff.mp (hm n)).1
  obtain ⟨g1, g2⟩ := q1.unlock m hm1
  rw [set_back (hm n)] at g2
  exact ⟨g1, k n v S1 _ e1 g2 r1⟩
theorem lc_lock (m : Nat) {p : Addr} {kss : List (Str × Sl)} {ds : List PyData} (hk : R[m]? = some (rDs p kss)) (h : ∀ od kvs, LcJ X K E Γ (R.set m (rDz p od kvs kss)) e (R.set m (rDz p od kvs kss)) ds) : LcJ X K E Γ R e R ds := by
  have h' := fun (z : Obj × List (Key × V)) => Classical.choose_spec (h z.1 z.2)
  refine ⟨tLockE fun σ H Q => ∃ z, Classical.choose (h z.1 z.2) σ H Q, fun i => pe_lock (pe_any fun z => (h' z).1 i), fun i k y py spos a1 a2 a3 => ?_, fun S σ H Q q k => ?_⟩
  · refine ⟨fun pins s σ H D I hw => ?_⟩
    obtain ⟨d, u, hd, mu, hw⟩ := hw
    have hps : PS (X i) (.Assign [.Name y py] e spos) (fun D σ H => ∃ z : Obj × List (Key × V), tAsg (Classical.choose (h z.1 z.2)) (gName k) D σ H) := ⟨fun pins s σ H D I ⟨z, hz⟩ => ((h' z).2.1 i k y py spos a1 a2 a3).run pins s σ H D I hz⟩
    refine (ps_lock hps).run pins s σ H D I ⟨d, u, hd, mu, fun od => ?_⟩
    obtain ⟨z, hz⟩ := hw od
    exact ⟨z, hz⟩
  obtain ⟨kvs, h1, h2⟩ := q.lock m hk
  refine ⟨p, .dK kvs, h1, trivial, fun od => ⟨(od, kvs), (h' (od, kvs)).2.2 S σ _ _ (h2 od) fun n v S1 H1 e1 q1 r1 => ?_⟩⟩
  have hlt := (List.getElem?_eq_some_iff.mp hk).1
  have hm1 : (R.set m (rDz p od kvs kss) ++ [rL n ds])[m]? = some (rDz p od kvs kss) := by rw [List.getElem?_append_left (by rw [List.length_set]; exact hlt)]; exact List.getElem?_set_self hlt
  obtain ⟨g1, g2⟩ := q1.unlock m hm1
  rw [List.set_append_left m _ (by rw [List.length_set]; exact hlt), set_back hk] at g2
  exact ⟨g1, k n v S1 _ e1 g2 r1⟩
theorem it_keys (F : Fam X P w K mg base A N) {tg : Expr} (m : Nat) {p : Addr} {od : Obj} {kvs : List (Key × V)} {kss : List (Str × Sl)} (h : EvJ X K E Γ R e R1 (sv (.ref p))) (hk : R1[m]? = some (rDz p od kvs kss)) : ItJ X K E Γ R tg e R1 (kss.map fun a => dS a.1) (fun R' => R'[m]? = some (rDz p od kvs kss)) := by
  obtain ⟨t, a1, a2⟩ := h
  refine ⟨iKeys t, fun i => pi_keys (a1 i), fun S σ H Rk q k => a2 S σ H _ q fun v S1 H1 e1 q1 r1 => ?_⟩
  cases (show v = .ref p from r1)
  obtain ⟨O, ⟨e2, h1⟩, h2⟩ := q1.res m hk
  subst e2
  refine ⟨p, od, rfl, .inl ⟨kvs, h2 p _ hOne_same, k _ S1 H1 e1 q1 fun n Γ' R' S' σ' H' e' q' hC => ?_⟩⟩
  obtain ⟨O, ⟨e3, g1⟩, g2⟩ := q'.res m hC
  subst e3
  have hlen := g1.len
  refine ⟨fun s hs => ?_, fun hn => ⟨g2 p _ hOne_same, by rw [List.length_map] at hn; omega⟩⟩
  rw [List.getElem?_map] at hs
  cases e4 : kss[n]? with
  | none => rw [e4] at hs; cases hs
  | some a =>
    rw [e4] at hs
    cases hs
    obtain ⟨b, e5, e6, e7⟩ := All2.get g1 e4
    refine ⟨⟨g2 p _ hOne_same, (List.getElem?_eq_some_iff.mp e5).1⟩, fun y H'' ⟨z1, k', v', z2, z3⟩ => ?_⟩
    subst z1 z3
    rw [e5] at z2
    cases z2
    refine ⟨S', Same.refl _, q', ?_⟩
    have e6' : k' = Sum.inr a.1 := e6
    rw [e6']
    rfl
/-! get, pop -/
theorem tyD {p : Addr} {kss : List (Str × Sl)} (k : Nat) (h : R[k]? = some (rDs p kss)) (Γ : Slots) (S : Hp) (σ : L2.St) (H : Hp) (x : V) (q : SR K E Γ R S σ H) (r : (sv (.ref p)).r K S x) : tyV K "dict" x H := by
  cases (show x = .ref p from r)
  obtain ⟨kvs, h1, _⟩ := q.cellD k h
  exact .inr (.inr (.inl ⟨rfl, .inl ⟨kvs, h1⟩⟩))
def rGet1 : V → List V → Hp → VK → Prop := fun x xs H Q => ∃ a y o, x = .ref a ∧ xs = [y] ∧ DGet H a y o ∧ Q (o.getD .non) H
theorem mt_get1 {X : Cx} (hu : X.A.units + 64 < cLine) : MtR X "dict.get" rGet1 := by
  intro pins s σ H x xs v us Q I rx ry h
  obtain ⟨a, y, o, rfl, rfl, g, q⟩ := h
  obtain rfl : v = Value.ref a := rx
  obtain ⟨u, rfl, ry'⟩ := vals1 ry
  exact d_get1 (by omega) I g ry' fun w' s' I' r' => ⟨_, H, I', r', q⟩
/-- d.get(k) -/
theorem ev_get (F : Fam X P w K mg base A N) {n : Nat} (hr : Room n A) (k : Nat) {p : Addr} {kss : List (Str × Sl)} {apos : Pos} (ho : EvJ X K E Γ R o R (sv (.ref p))) (ha : EvJ X K E Γ R e R (dS x)) (hk : R[k]? = some (rDs p kss))
    (hbase : ∀ i, attributeBase o "get" (X i).env (eval o (X i).env) = eval o (X i).env := by exact fun _ => rfl)
    (hfew : ∀ i, ((backTo pos (starEach [e] (X i).env)).all (fun x => !x.1) && (backToKw pos (keywordEach [] (X i).env)).all (fun x => x.1.isSome) && decide ([e].length + ([] : List Keyword).length + (if ([] : List Keyword).isEmpty then 0 else 1) < 30)) = true := by exact fun _ => rfl)
    (hline : (apos.endLine == pos.line) = true := by rfl) (hs : ∀ i, starEach [e] (X i).env = (false, eval e (X i).env) :: starEach [] (X i).env := by exact fun _ => rfl) (hplain : ∀ i, (backTo pos (starEach [] (X i).env)).any (·.1) = false := by exact fun _ => rfl) :
    EvJ X K E Γ R (.Call (.Attribute o "get" apos) [e] [] pos) R ((lk kss x).getD dN) := by
  refine ev_mt F PySem.F.plainAttrs_dict PySem.F.slot_dict_get PySem.F.type_dict_get ho (ar_cons ha ar_nil hs) ⟨rGet1, fun i => mt_get1 (by rw [F.fA i]; exact hr.units), tyD k hk, fun Γ S σ H u xs Q q r1 r2 k' => ?_⟩ hbase hfew hline hs hplain
  obtain ⟨v, rfl, r3⟩ := all2_one r2
  cases (show u = .ref p from r1)
  cases (show v = .str x from r3)
  obtain ⟨kvs, h1, h2⟩ := q.cellD k hk
  refine ⟨p, .str x, _, rfl, rfl, rd_get (.inl h1) h2 x, k' _ S H (Same.refl _) q ?_⟩
  rcases h2.val x with ⟨e1, e2⟩ | ⟨t, v, e1, e2, e3⟩
  · rw [e1, e2]; rfl
  · rw [e1, e2]; exact e3
def rPop1 : V → List V → Hp → VK → Prop := fun x xs H Q => ∃ a y kvs v, x = .ref a ∧ xs = [.str y] ∧ H a = some (.dK kvs) ∧ valV kvs (.inr y) = some v ∧ Q v (upd H a (.dK (dropK kvs (.inr y))))
theorem mt_pop1 {X : Cx} : MtR X "dict.pop" rPop1 := by
  intro pins s σ H x xs v us Q I rx ry h
  obtain ⟨a, y, kvs, v', rfl, rfl, e, g, q⟩ := h
  obtain rfl : v = Value.ref a := rx
  obtain ⟨u, rfl, ry'⟩ := vals1 ry
  exact d_pop (more := []) I e (show RelV (kV (.inr y)) u from ry') g (.inl rfl) fun w' s' I' r' => ⟨_, _, I', r', q⟩
/-- d.pop(k), there -/
theorem ev_pop (F : Fam X P w K mg base A N) (k : Nat) {p : Addr} {kss : List (Str × Sl)} {apos : Pos} (ho : EvJ X K E Γ R o R (sv (.ref p))) (ha : EvJ X K E Γ R e R (dS x)) (hk : R[k]? = some (rDs p kss)) (hl : lk kss x = some s)
    (hbase : ∀ i, attributeBase o "pop" (X i).env (eval o (X i).env) = eval o (X i).env := by exact fun _ => rfl)
    (hfew : ∀ i, ((backTo pos (starEach [e] (X i).env)).all (fun x => !x.1) && (backToKw pos (keywordEach [] (X i).env)).all (fun x => x.1.isSome) && decide ([e].length + ([] : List Keyword).length + (if ([] : List Keyword).isEmpty then 0 else 1) < 30)) = true := by exact fun _ => rfl)
    (hline : (apos.endLine == pos.line) = true := by rfl) (hs : ∀ i, starEach [e] (X i).env = (false, eval e (X i).env) :: starEach [] (X i).env := by exact fun _ => rfl) (hplain : ∀ i, (backTo pos (starEach [] (X i).env)).any (·.1) = false := by exact fun _ => rfl) :
    EvJ X K E Γ R (.Call (.Attribute o "pop" apos) [e] [] pos) (R.set k (rDs p (dr kss x))) s := by
  refine ev_mt F PySem.F.plainAttrs_dict PySem.F.slot_dict_pop PySem.F.type_dict_pop ho (ar_cons ha ar_nil hs) ⟨rPop1, fun i => mt_pop1, tyD k hk, fun Γ S σ H u xs Q q r1 r2 k' => ?_⟩ hbase hfew hline hs hplain
  obtain ⟨v, rfl, r3⟩ := all2_one r2
  cases (show u = .ref p from r1)
  cases (show v = .str x from r3)
  obtain ⟨kvs, h1, h2⟩ := q.cellD k hk
  rcases h2.val x with ⟨e1, e2⟩ | ⟨t, v, e1, e2, e3⟩
  · rw [hl] at e1; cases e1
  · rw [hl] at e1
    cases e1
    exact ⟨p, x, kvs, v, rfl, rfl, h1, e2, k' _ S _ (Same.refl _) (q.putD k hk (h2.drop x)) e3⟩
def rPop2 : V → List V → Hp → VK → Prop := fun x xs H Q => ∃ a y kvs z, x = .ref a ∧ xs = [.str y, z] ∧ H a = some (.dK kvs) ∧ ((∃ v, valV kvs (.inr y) = some v ∧ Q v (upd H a (.dK (dropK kvs (.inr y))))) ∨ (valV kvs (.inr y) = none ∧ Q z H))
theorem mt_pop2 {X : Cx} : MtR X "dict.pop" rPop2 := by
  intro pins s σ H x xs v us Q I rx ry h
  obtain ⟨a, y, kvs, z, rfl, rfl, e, g⟩ := h
  obtain rfl : v = Value.ref a := rx
  cases ry with
  | cons ry rz =>
    cases rz with
    | cons rz rn =>
      cases rn
      rcases g with ⟨v', g, q⟩ | ⟨g, q⟩
      · exact d_pop I e (show RelV (kV (.inr y)) _ from ry) g (.inr ⟨_, rfl⟩) fun w' s' I' r' => ⟨_, _, I', r', q⟩
      · exact d_popD I e (show RelV (kV (.inr y)) _ from ry) g fun s' I' => ⟨_, _, I', rz, q⟩
/-- d.pop(k, None) -/
theorem blk_popN (F : Fam X P w K mg base A N) (k : Nat) {p : Addr} {kss : List (Str × Sl)} {apos : Pos} {c : Expr} {p2 : Pos} (ho : EvJ X K E Γ R o R (sv (.ref p))) (ha : EvJ X K E Γ R e R (dS x)) (hc : EvJ X K E Γ R c R dN) (hk : R[k]? = some (rDs p kss)) (hr : Blk X K E B Γ (R.set k (rDs p (dr kss x))) rest D)
    (hbase : ∀ i, attributeBase o "pop" (X i).env (eval o (X i).env) = eval o (X i).env := by exact fun _ => rfl)
    (hfew : ∀ i, ((backTo pos (starEach [e, c] (X i).env)).all (fun x => !x.1) && (backToKw pos (keywordEach [] (X i).env)).all (fun x => x.1.isSome) && decide ([e, c].length + ([] : List Keyword).length + (if ([] : List Keyword).isEmpty then 0 else 1) < 30)) = true := by exact fun _ => rfl)
    (hline : (apos.endLine == pos.line) = true := by rfl) (hs : ∀ i, starEach [e, c] (X i).env = (false, eval e (X i).env) :: starEach [c] (X i).env := by exact fun _ => rfl) (hs' : ∀ i, starEach [c] (X i).env = (false, eval c (X i).env) :: starEach [] (X i).env := by exact fun _ => rfl) (hplain : ∀ i, (backTo pos (starEach [c] (X i).env)).any (·.1) = false := by exact fun _ => rfl) :
    Blk X K E B Γ R (.Expr (.Call (.Attribute o "pop" apos) [e, c] [] pos) p2 :: rest) D := by
  have hm : MtJ X K E "dict" "dict.pop" R (sv (.ref p)) [dS x, dN] (R.set k (rDs p (dr kss x))) ⟨fun _ _ _ => True, fun _ h => h⟩ := by
    refine ⟨rPop2, fun i => mt_pop2, tyD k hk, fun Γ S σ H u xs Q q r1 r2 k' => ?_⟩
    obtain ⟨v, z, rfl, r3, r4⟩ : ∃ v z, xs = [v, z] ∧ (dS x).r K S v ∧ dN.r K S z := by
      cases r2 with
      | cons a b =>
        cases b with
        | cons c d =>
          cases d
          exact ⟨_, _, rfl, a, c⟩
    cases (show u = .ref p from r1)
    cases (show v = .str x from r3)
    obtain ⟨kvs, h1, h2⟩ := q.cellD k hk
    refine ⟨p, x, kvs, z, rfl, rfl, h1, ?_⟩
    rcases h2.val x with ⟨e1, e2⟩ | ⟨t, v, e1, e2, e3⟩
    · refine .inr ⟨e2, k' _ S _ (Same.refl _) ?_ trivial⟩
      have := q.putD k hk (h2.drop x)
      have hd : dropK kvs (.inr x) = kvs := by
        unfold dropK
        rw [List.filter_eq_self]
        intro a ha
        have hn : (kvs.any fun kv => decide (kv.1 = .inr x)) = false := by rw [valV_any, e2]; rfl
        have := (List.any_eq_false.mp hn) a ha
        simpa using this
      rw [hd, show upd H p (.dK kvs) = H from ?_] at this
      · exact this
      · funext a
        by_cases ea : a = p
        · subst ea; rw [upd_same, h1]
        · rw [upd_ne ea]
    · exact .inl ⟨v, e2, k' _ S _ (Same.refl _) (q.putD k hk (h2.drop x)) trivial⟩
  exact blk_expr (ev_mt F PySem.F.plainAttrs_dict PySem.F.slot_dict_pop PySem.F.type_dict_pop ho (ar_cons ha (ar_cons hc ar_nil hs') hs) hm hbase hfew hline hs hplain) hr
end
section
variable {ι : Type} {X : ι → Cx} {K : PySem.W.Frag} {E : Ent} {B : Hp} {Γ Γ' : Slots} {R R' R1 R2' R3 : List Res} {e : Expr} {es : List Expr} {pos p' : Pos} {s s1 s2 s3 : Sl}
  {P : Program} {w : World} {mg : Str → Option Value} {base : Heap} {A : Around} {N : List Str} {D : Ends} {f : Str} {ps : List Str} {fa : Addr} {fd : FuncData} {k : Nat} {x qual : Str} {st : Stmt}
/-- a def of 1 that hands back something of which a law is told; new lists of its own -/
abbrev spE1 (K : PySem.W.Frag) {α ρ : Type} (pre : α → Prop) (d1 : α → Sl) (post : α → ρ → Prop) (res : ρ → Sl) : Sp := spJ K (θ := α) (ν := fun i => {n : ρ // post (i) n}) (fun i => pre (i)) (fun i => [d1 i]) (fun _ => []) (fun _ _ => []) (fun _ n => res n.1)
abbrev spM1 (K : PySem.W.Frag) {α ρ : Type} (pre : α → Prop) (d1 : α → Sl) (post : α → ρ → Prop) (lst : ρ → List PyData) : Sp := spJ K (θ := α) (ν := fun i => Addr × {n : ρ // post (i) n}) (fun i => pre (i)) (fun i => [d1 i]) (fun _ => []) (fun _ n => [rL n.1 (lst n.2.1)]) (fun _ n => sv (.ref n.1))
theorem en_call1 (F : Fam X P w K mg base A N) {α ρ : Type} {pre : α → Prop} {d1 : α → Sl} {post : α → ρ → Prop} {res : ρ → Sl} {x1 : α} (C : Cal P w K mg base A f ps (spE1 K pre d1 post res)) (ha : ArJ X K E Γ R (e :: es) R1 [d1 x1]) (hpre : pre x1) (hg : ∀ i, Gl (X i) f := by exact fun _ => rfl) (he : ∀ i, starEach (e :: es) (X i).env = (false, eval e (X i).env) :: starEach es (X i).env := by exact fun _ => rfl) (hpl : ∀ i, (backTo pos (starEach es (X i).env)).any (·.1) = false := by exact fun _ => rfl) (hdb : (f == ("__debug__" : Str)) = false := by decide) :
    EvN X K E Γ R (.Call (.Name f p') (e :: es) [] pos) (fun _ : {n : ρ // post x1 n} => R1) (fun n => res n.1) := by
  have := ev_callN (p' := p') F C x1 ha hpre hg he hpl hdb
  simp only [List.append_nil] at this
  exact this
theorem em_call1 (F : Fam X P w K mg base A N) {α ρ : Type} {pre : α → Prop} {d1 : α → Sl} {post : α → ρ → Prop} {lst : ρ → List PyData} {x1 : α} (C : Cal P w K mg base A f ps (spM1 K pre d1 post lst)) (ha : ArJ X K E Γ R (e :: es) R1 [d1 x1]) (hpre : pre x1) (hg : ∀ i, Gl (X i) f := by exact fun _ => rfl) (he : ∀ i, starEach (e :: es) (X i).env = (false, eval e (X i).env) :: starEach es (X i).env := by exact fun _ => rfl) (hpl : ∀ i, (backTo pos (starEach es (X i).env)).any (·.1) = false := by exact fun _ => rfl) (hdb : (f == ("__debug__" : Str)) = false := by decide) :
    EvN X K E Γ R (.Call (.Name f p') (e :: es) [] pos) (fun n : Addr × {n : ρ // post x1 n} => R1 ++ [rL n.1 (lst n.2.1)]) (fun n => sv (.ref n.1)) := ev_callN (p' := p') F C x1 ha hpre hg he hpl hdb
theorem fnE1 {α ρ : Type} {pre : α → Prop} {d1 : α → Sl} {post : α → ρ → Prop} {res : ρ → Sl} (F : Fun K x qual st fa fd) (Sc : FnScope N ps (defScope st)) (hl : ps.length = 1) (hb : ∀ x1, pre x1 → BodyOk P w K mg base N qual st fa k (ν := {n : ρ // post x1 n}) [d1 x1] (fun _ => []) (fun n => res n.1)) : FnOk P w K mg base CX0 (k + 1) fa fd ps (spE1 K pre d1 post res) :=
  fn_ok F Sc (fun _ => hl.symm) fun i cdv A outer s H S0 A0 E Q hr hp hq => hb (i) hp cdv A outer s H S0 A0 E Q hr (fam_fx Sc) hq
theorem fnM1 {α ρ : Type} {pre : α → Prop} {d1 : α → Sl} {post : α → ρ → Prop} {lst : ρ → List PyData} (F : Fun K x qual st fa fd) (Sc : FnScope N ps (defScope st)) (hl : ps.length = 1) (hb : ∀ x1, pre x1 → BodyOk P w K mg base N qual st fa k (ν := Addr × {n : ρ // post x1 n}) [d1 x1] (fun n => [rL n.1 (lst n.2.1)]) (fun n => sv (.ref n.1))) : FnOk P w K mg base CX0 (k + 1) fa fd ps (spM1 K pre d1 post lst) :=
  fn_ok F Sc (fun _ => hl.symm) fun i cdv A outer s H S0 A0 E Q hr hp hq => hb (i) hp cdv A outer s H S0 A0 E Q hr (fam_fx Sc) hq
/-- a def of 2 that hands back something of which a law is told; new lists of its own -/
abbrev spE2 (K : PySem.W.Frag) {α β ρ : Type} (pre : α → β → Prop) (d1 : α → Sl) (d2 : β → Sl) (post : α → β → ρ → Prop) (res : ρ → Sl) : Sp := spJ K (θ := α × β) (ν := fun i => {n : ρ // post (i.1) (i.2) n}) (fun i => pre (i.1) (i.2)) (fun i => [d1 (i.1), d2 (i.2)]) (fun _ => []) (fun _ _ => []) (fun _ n => res n.1)
abbrev spM2 (K : PySem.W.Frag) {α β ρ : Type} (pre : α → β → Prop) (d1 : α → Sl) (d2 : β → Sl) (post : α → β → ρ → Prop) (lst : ρ → List PyData) : Sp := spJ K (θ := α × β) (ν := fun i => Addr × {n : ρ // post (i.1) (i.2) n}) (fun i => pre (i.1) (i.2)) (fun i => [d1 (i.1), d2 (i.2)]) (fun _ => []) (fun _ n => [rL n.1 (lst n.2.1)]) (fun _ n => sv (.ref n.1))
theorem en_call2 (F : Fam X P w K mg base A N) {α β ρ : Type} {pre : α → β → Prop} {d1 : α → Sl} {d2 : β → Sl} {post : α → β → ρ → Prop} {res : ρ → Sl} {x1 : α} {x2 : β} (C : Cal P w K mg base A f ps (spE2 K pre d1 d2 post res)) (ha : ArJ X K E Γ R (e :: es) R1 [d1 x1, d2 x2]) (hpre : pre x1 x2) (hg : ∀ i, Gl (X i) f := by exact fun _ => rfl) (he : ∀ i, starEach (e :: es) (X i).env = (false, eval e (X i).env) :: starEach es (X i).env := by exact fun _ => rfl) (hpl : ∀ i, (backTo pos (starEach es (X i).env)).any (·.1) = false := by exact fun _ => rfl) (hdb : (f == ("__debug__" : Str)) = false := by decide) :
    EvN X K E Γ R (.Call (.Name f p') (e :: es) [] pos) (fun _ : {n : ρ // post x1 x2 n} => R1) (fun n => res n.1) := by
  have := ev_callN (p' := p') F C (x1, x2) ha hpre hg he hpl hdb
  simp only [List.append_nil] at this
  exact this
theorem em_call2 (F : Fam X P w K mg base A N) {α β ρ : Type} {pre : α → β → Prop} {d1 : α → Sl} {d2 : β → Sl} {post : α → β → ρ → Prop} {lst : ρ → List PyData} {x1 : α} {x2 : β} (C : Cal P w K mg base A f ps (spM2 K pre d1 d2 post lst)) (ha : ArJ X K E Γ R (e :: es) R1 [d1 x1, d2 x2]) (hpre : pre x1 x2) (hg : ∀ i, Gl (X i) f := by exact fun _ => rfl) (he : ∀ i, starEach (e :: es) (X i).env = (false, eval e (X i).env) :: starEach es (X i).env := by exact fun _ => rfl) (hpl : ∀ i, (backTo pos (starEach es (X i).env)).any (·.1) = false := by exact fun _ => rfl) (hdb : (f == ("__debug__" : Str)) = false := by decide) :
    EvN X K E Γ R (.Call (.Name f p') (e :: es) [] pos) (fun n : Addr × {n : ρ // post x1 x2 n} => R1 ++ [rL n.1 (lst n.2.1)]) (fun n => sv (.ref n.1)) := ev_callN (p' := p') F C (x1, x2) ha hpre hg he hpl hdb
theorem fnE2 {α β ρ : Type} {pre : α → β → Prop} {d1 : α → Sl} {d2 : β → Sl} {post : α → β → ρ → Prop} {res : ρ → Sl} (F : Fun K x qual st fa fd) (Sc : FnScope N ps (defScope st)) (hl : ps.length = 2) (hb : ∀ x1 x2, pre x1 x2 → BodyOk P w K mg base N qual st fa k (ν := {n : ρ // post x1 x2 n}) [d1 x1, d2 x2] (fun _ => []) (fun n => res n.1)) : FnOk P w K mg base CX0 (k + 1) fa fd ps (spE2 K pre d1 d2 post res) :=
  fn_ok F Sc (fun _ => hl.symm) fun i cdv A outer s H S0 A0 E Q hr hp hq => hb (i.1) (i.2) hp cdv A outer s H S0 A0 E Q hr (fam_fx Sc) hq
theorem fnM2 {α β ρ : Type} {pre : α → β → Prop} {d1 : α → Sl} {d2 : β → Sl} {post : α → β → ρ → Prop} {lst : ρ → List PyData} (F : Fun K x qual st fa fd) (Sc : FnScope N ps (defScope st)) (hl : ps.length = 2) (hb : ∀ x1 x2, pre x1 x2 → BodyOk P w K mg base N qual st fa k (ν := Addr × {n : ρ // post x1 x2 n}) [d1 x1, d2 x2] (fun n => [rL n.1 (lst n.2.1)]) (fun n => sv (.ref n.1))) : FnOk P w K mg base CX0 (k + 1) fa fd ps (spM2 K pre d1 d2 post lst) :=
  fn_ok F Sc (fun _ => hl.symm) fun i cdv A outer s H S0 A0 E Q hr hp hq => hb (i.1) (i.2) hp cdv A outer s H S0 A0 E Q hr (fam_fx Sc) hq
/-- a def of 3 that hands back something of which a law is told; new lists of its own -/
abbrev spE3 (K : PySem.W.Frag) {α β γ ρ : Type} (pre : α → β → γ → Prop) (d1 : α → Sl) (d2 : β → Sl) (d3 : γ → Sl) (post : α → β → γ → ρ → Prop) (res : ρ → Sl) : Sp := spJ K (θ := α × β × γ) (ν := fun i => {n : ρ // post (i.1) (i.2.1) (i.2.2) n}) (fun i => pre (i.1) (i.2.1) (i.2.2)) (fun i => [d1 (i.1), d2 (i.2.1), d3 (i.2.2)]) (fun _ => []) (fun _ _ => []) (fun _ n => res n.1)
abbrev spM3 (K : PySem.W.Frag) {α β γ ρ : Type} (pre : α → β → γ → Prop) (d1 : α → Sl) (d2 : β → Sl) (d3 : γ → Sl) (post : α → β → γ → ρ → Prop) (lst : ρ → List PyData) : Sp := spJ K (θ := α × β × γ) (ν := fun i => Addr × {n : ρ // post (i.1) (i.2.1) (i.2.2) n}) (fun i => pre (i.1) (i.2.1) (i.2.2)) (fun i => [d1 (i.1), d2 (i.2.1), d3 (i.2.2)]) (fun _ => []) (fun _ n => [rL n.1 (lst n.2.1)]) (fun _ n => sv (.ref n.1))
theorem en_call3 (F : Fam X P w K mg base A N) {α β γ ρ : Type} {pre : α → β → γ → Prop} {d1 : α → Sl} {d2 : β → Sl} {d3 : γ → Sl} {post : α → β → γ → ρ → Prop} {res : ρ → Sl} {x1 : α} {x2 : β} {x3 : γ} (C : Cal P w K mg base A f ps (spE3 K pre d1 d2 d3 post res)) (ha : ArJ X K E Γ R (e :: es) R1 [d1 x1, d2 x2, d3 x3]) (hpre : pre x1 x2 x3) (hg : ∀ i, Gl (X i) f := by exact fun _ => rfl) (he : ∀ i, starEach (e :: es) (X i).env = (false, eval e (X i).env) :: starEach es (X i).env := by exact fun _ => rfl) (hpl : ∀ i, (backTo pos (starEach es (X i).env)).any (·.1) = false := by exact fun _ => rfl) (hdb : (f == ("__debug__" : Str)) = false := by decide) :
    EvN X K E Γ R (.Call (.Name f p') (e :: es) [] pos) (fun _ : {n : ρ // post x1 x2 x3 n} => R1) (fun n => res n.1) := by
  have := ev_callN (p' := p') F C (x1, x2, x3) ha hpre hg he hpl hdb
  simp only [List.append_nil] at this
  exact this
theorem em_call3 (F : Fam X P w K mg base A N) {α β γ ρ : Type} {pre : α → β → γ → Prop} {d1 : α → Sl} {d2 : β → Sl} {d3 : γ → Sl} {post : α → β → γ → ρ → Prop} {lst : ρ → List PyData} {x1 : α} {x2 : β} {x3 : γ} (C : Cal P w K mg base A f ps (spM3 K pre d1 d2 d3 post lst)) (ha : ArJ X K E Γ R (e :: es) R1 [d1 x1, d2 x2, d3 x3]) (hpre : pre x1 x2 x3) (hg : ∀ i, Gl (X i) f := by exact fun _ => rfl) (he : ∀ i, starEach (e :: es) (X i).env = (false, eval e (X i).env) :: starEach es (X i).env := by exact fun _ => rfl) (hpl : ∀ i, (backTo pos (starEach es (X i).env)).any (·.1) = false := by exact fun _ => rfl) (hdb : (f == ("__debug__" : Str)) = false := by decide) :
    EvN X K E Γ R (.Call (.Name f p') (e :: es) [] pos) (fun n : Addr × {n : ρ // post x1 x2 x3 n} => R1 ++ [rL n.1 (lst n.2.1)]) (fun n => sv (.ref n.1)) := ev_callN (p' := p') F C (x1, x2, x3) ha hpre hg he hpl hdb
theorem fnE3 {α β γ ρ : Type} {pre : α → β → γ → Prop} {d1 : α → Sl} {d2 : β → Sl} {d3 : γ → Sl} {post : α → β → γ → ρ → Prop} {res : ρ → Sl} (F : Fun K x qual st fa fd) (Sc : FnScope N ps (defScope st)) (hl : ps.length = 3) (hb : ∀ x1 x2 x3, pre x1 x2 x3 → BodyOk P w K mg base N qual st fa k (ν := {n : ρ // post x1 x2 x3 n}) [d1 x1, d2 x2, d3 x3] (fun _ => []) (fun n => res n.1)) : FnOk P w K mg base CX0 (k + 1) fa fd ps (spE3 K pre d1 d2 d3 post res) :=
  fn_ok F Sc (fun _ => hl.symm) fun i cdv A outer s H S0 A0 E Q hr hp hq => hb (i.1) (i.2.1) (i.2.2) hp cdv A outer s H S0 A0 E Q hr (fam_fx Sc) hq
theorem fnM3 {α β γ ρ : Type} {pre : α → β → γ → Prop} {d1 : α → Sl} {d2 : β → Sl} {d3 : γ → Sl} {post : α → β → γ → ρ → Prop} {lst : ρ → List PyData} (F : Fun K x qual st fa fd) (Sc : FnScope N ps (defScope st)) (hl : ps.length = 3) (hb : ∀ x1 x2 x3, pre x1 x2 x3 → BodyOk P w K mg base N qual st fa k (ν := Addr × {n : ρ // post x1 x2 x3 n}) [d1 x1, d2 x2, d3 x3] (fun n => [rL n.1 (lst n.2.1)]) (fun n => sv (.ref n.1))) : FnOk P w K mg base CX0 (k + 1) fa fd ps (spM3 K pre d1 d2 d3 post lst) :=
  fn_ok F Sc (fun _ => hl.symm) fun i cdv A outer s H S0 A0 E Q hr hp hq => hb (i.1) (i.2.1) (i.2.2) hp cdv A outer s H S0 A0 E Q hr (fam_fx Sc) hq
/-- a def of 4 that hands back something of which a law is told; new lists of its own -/
abbrev spE4 (K : PySem.W.Frag) {α β γ δ ρ : Type} (pre : α → β → γ → δ → Prop) (d1 : α → Sl) (d2 : β → Sl) (d3 : γ → Sl) (d4 : δ → Sl) (post : α → β → γ → δ → ρ → Prop) (res : ρ → Sl) : Sp := spJ K (θ := α × β × γ × δ) (ν := fun i => {n : ρ // post (i.1) (i.2.1) (i.2.2.1) (i.2.2.2) n}) (fun i => pre (i.1) (i.2.1) (i.2.2.1) (i.2.2.2)) (fun i => [d1 (i.1), d2 (i.2.1), d3 (i.2.2.1), d4 (i.2.2.2)]) (fun _ => []) (fun _ _ => []) (fun _ n => res n.1)
abbrev spM4 (K : PySem.W.Frag) {α β γ δ ρ : Type} (pre : α → β → γ → δ → Prop) (d1 : α → Sl) (d2 : β → Sl) (d3 : γ → Sl) (d4 : δ → Sl) (post : α → β → γ → δ → ρ → Prop) (lst : ρ → List PyData) : Sp := spJ K (θ := α × β × γ × δ) (ν := fun i => Addr × {n : ρ // post (i.1) (i.2.1) (i.2.2.1) (i.2.2.2) n}) (fun i => pre (i.1) (i.2.1) (i.2.2.1) (i.2.2.2)) (fun i => [d1 (i.1), d2 (i.2.1), d3 (i.2.2.1), d4 (i.2.2.2)]) (fun _ => []) (fun _ n => [rL n.1 (lst n.2.1)]) (fun _ n => sv (.ref n.1))
theorem en_call4 (F : Fam X P w K mg base A N) {α β γ δ ρ : Type} {pre : α → β → γ → δ → Prop} {d1 : α → Sl} {d2 : β → Sl} {d3 : γ → Sl} {d4 : δ → Sl} {post : α → β → γ → δ → ρ → Prop} {res : ρ → Sl} {x1 : α} {x2 : β} {x3 : γ} {x4 : δ} (C : Cal P w K mg base A f ps (spE4 K pre d1 d2 d3 d4 post res)) (ha : ArJ X K E Γ R (e :: es) R1 [d1 x1, d2 x2, d3 x3, d4 x4]) (hpre : pre x1 x2 x3 x4) (hg : ∀ i, Gl (X i) f := by exact fun _ => rfl) (he : ∀ i, starEach (e :: es) (X i).env = (false, eval e (X i).env) :: starEach es (X i).env := by exact fun _ => rfl) (hpl : ∀ i, (backTo pos (starEach es (X i).env)).any (·.1) = false := by exact fun _ => rfl) (hdb : (f == ("__debug__" : Str)) = false := by decide) :
    EvN X K E Γ R (.Call (.Name f p') (e :: es) [] pos) (fun _ : {n : ρ // post x1 x2 x3 x4 n} => R1) (fun n => res n.1) := by
  have := ev_callN (p' := p') F C (x1, x2, x3, x4) ha hpre hg he hpl hdb
  simp only [List.append_nil] at this
  exact this
theorem em_call4 (F : Fam X P w K mg base A N) {α β γ δ ρ : Type} {pre : α → β → γ → δ → Prop} {d1 : α → Sl} {d2 : β → Sl} {d3 : γ → Sl} {d4 : δ → Sl} {post : α → β → γ → δ → ρ → Prop} {lst : ρ → List PyData} {x1 : α} {x2 : β} {x3 : γ} {x4 : δ} (C : Cal P w K mg base A f ps (spM4 K pre d1 d2 d3 d4 post lst)) (ha : ArJ X K E Γ R (e :: es) R1 [d1 x1, d2 x2, d3 x3, d4 x4]) (hpre : pre x1 x2 x3 x4) (hg : ∀ i, Gl (X i) f := by exact fun _ => rfl) (he : ∀ i, starEach (e :: es) (X i).env = (false, eval e (X i).env) :: starEach es (X i).env := by exact fun _ => rfl) (hpl : ∀ i, (backTo pos (starEach es (X i).env)).any (·.1) = false := by exact fun _ => rfl) (hdb : (f == ("__debug__" : Str)) = false := by decide) :
    EvN X K E Γ R (.Call (.Name f p') (e :: es) [] pos) (fun n : Addr × {n : ρ // post x1 x2 x3 x4 n} => R1 ++ [rL n.1 (lst n.2.1)]) (fun n => sv (.ref n.1)) := ev_callN (p' := p') F C (x1, x2, x3, x4) ha hpre hg he hpl hdb
theorem fnE4 {α β γ δ ρ : Type} {pre : α → β → γ → δ → Prop} {d1 : α → Sl} {d2 : β → Sl} {d3 : γ → Sl} {d4 : δ → Sl} {post : α → β → γ → δ → ρ → Prop} {res : ρ → Sl} (F : Fun K x qual st fa fd) (Sc : FnScope N ps (defScope st)) (hl : ps.length = 4) (hb : ∀ x1 x2 x3 x4, pre x1 x2 x3 x4 → BodyOk P w K mg base N qual st fa k (ν := {n : ρ // post x1 x2 x3 x4 n}) [d1 x1, d2 x2, d3 x3, d4 x4] (fun _ => []) (fun n => res n.1)) : FnOk P w K mg base CX0 (k + 1) fa fd ps (spE4 K pre d1 d2 d3 d4 post res) :=
  fn_ok F Sc (fun _ => hl.symm) fun i cdv A outer s H S0 A0 E Q hr hp hq => hb (i.1) (i.2.1) (i.2.2.1) (i.2.2.2) hp cdv A outer s H S0 A0 E Q hr (fam_fx Sc) hq
theorem fnM4 {α β γ δ ρ : Type} {pre : α → β → γ → δ → Prop} {d1 : α → Sl} {d2 : β → Sl} {d3 : γ → Sl} {d4 : δ → Sl} {post : α → β → γ → δ → ρ → Prop} {lst : ρ → List PyData} (F : Fun K x qual st fa fd) (Sc : FnScope N ps (defScope st)) (hl : ps.length = 4) (hb : ∀ x1 x2 x3 x4, pre x1 x2 x3 x4 → BodyOk P w K mg base N qual st fa k (ν := Addr × {n : ρ // post x1 x2 x3 x4 n}) [d1 x1, d2 x2, d3 x3, d4 x4] (fun n => [rL n.1 (lst n.2.1)]) (fun n => sv (.ref n.1))) : FnOk P w K mg base CX0 (k + 1) fa fd ps (spM4 K pre d1 d2 d3 d4 post lst) :=
  fn_ok F Sc (fun _ => hl.symm) fun i cdv A outer s H S0 A0 E Q hr hp hq => hb (i.1) (i.2.1) (i.2.2.1) (i.2.2.2) hp cdv A outer s H S0 A0 E Q hr (fam_fx Sc) hq
/-- a def of 5 that hands back something of which a law is told; new lists of its own -/
abbrev spE5 (K : PySem.W.Frag) {α β γ δ ε ρ : Type} (pre : α → β → γ → δ → ε → Prop) (d1 : α → Sl) (d2 : β → Sl) (d3 : γ → Sl) (d4 : δ → Sl) (d5 : ε → Sl) (post : α → β → γ → δ → ε → ρ → Prop) (res : ρ → Sl) : Sp := spJ K (θ := α × β × γ × δ × ε) (ν := fun i => {n : ρ // post (i.1) (i.2.1) (i.2.2.1) (i.2.2.2.1) (i.2.2.2.2) n}) (fun i => pre (i.1) (i.2.1) (i.2.2.1) (i.2.2.2.1) (i.2.2.2.2)) (fun i => [d1 (i.1), d2 (i.2.1), d3 (i.2.2.1), d4 (i.2.2.2.1), d5 (i.2.2.2.2)]) (fun _ => []) (fun _ _ => []) (fun _ n => res n.1)
abbrev spM5 (K : PySem.W.Frag) {α β γ δ ε ρ : Type} (pre : α → β → γ → δ → ε → Prop) (d1 : α → Sl) (d2 : β → Sl) (d3 : γ → Sl) (d4 : δ → Sl) (d5 : ε → Sl) (post : α → β → γ → δ → ε → ρ → Prop) (lst : ρ → List PyData) : Sp := spJ K (θ := α × β × γ × δ × ε) (ν := fun i => Addr × {n : ρ // post (i.1) (i.2.1) (i.2.2.1) (i.2.2.2.1) (i.2.2.2.2) n}) (fun i => pre (i.1) (i.2.1) (i.2.2.1) (i.2.2.2.1) (i.2.2.2.2)) (fun i => [d1 (i.1), d2 (i.2.1), d3 (i.2.2.1), d4 (i.2.2.2.1), d5 (i.2.2.2.2)]) (fun _ => []) (fun _ n => [rL n.1 (lst n.2.1)]) (fun _ n => sv (.ref n.1))
theorem en_call5 (F : Fam X P w K mg base A N) {α β γ δ ε ρ : Type} {pre : α → β → γ → δ → ε → Prop} {d1 : α → Sl} {d2 : β → Sl} {d3 : γ → Sl} {d4 : δ → Sl} {d5 : ε → Sl} {post : α → β → γ → δ → ε → ρ → Prop} {res : ρ → Sl} {x1 : α} {x2 : β} {x3 : γ} {x4 : δ} {x5 : ε} (C : Cal P w K mg base A f ps (spE5 K pre d1 d2 d3 d4 d5 post res)) (ha : ArJ X K E Γ R (e :: es) R1 [d1 x1, d2 x2, d3 x3, d4 x4, d5 x5]) (hpre : pre x1 x2 x3 x4 x5) (hg : ∀ i, Gl (X i) f := by exact fun _ => rfl) (he : ∀ i, starEach (e :: es) (X i).env = (false, eval e (X i).env) :: starEach es (X i).env := by exact fun _ => rfl) (hpl : ∀ i, (backTo pos (starEach es (X i).env)).any (·.1) = false := by exact fun _ => rfl) (hdb : (f == ("__debug__" : Str)) = false := by decide) :
    EvN X K E Γ R (.Call (.Name f p') (e :: es) [] pos) (fun _ : {n : ρ // post x1 x2 x3 x4 x5 n} => R1) (fun n => res n.1) := by
  have := ev_callN (p' := p') F C (x1, x2, x3, x4, x5) ha hpre hg he hpl hdb
  simp only [List.append_nil] at this
  exact this
theorem em_call5 (F : Fam X P w K mg base A N) {α β γ δ ε ρ : Type} {pre : α → β → γ → δ → ε → Prop} {d1 : α → Sl} {d2 : β → Sl} {d3 : γ → Sl} {d4 : δ → Sl} {d5 : ε → Sl} {post : α → β → γ → δ → ε → ρ → Prop} {lst : ρ → List PyData} {x1 : α} {x2 : β} {x3 : γ} {x4 : δ} {x5 : ε} (C : Cal P w K mg base A f ps (spM5 K pre d1 d2 d3 d4 d5 post lst)) (ha : ArJ X K E Γ R (e :: es) R1 [d1 x1, d2 x2, d3 x3, d4 x4, d5 x5]) (hpre : pre x1 x2 x3 x4 x5) (hg : ∀ i, Gl (X i) f := by exact fun _ => rfl) (he : ∀ i, starEach (e :: es) (X i).env = (false, eval e (X i).env) :: starEach es (X i).env := by exact fun _ => rfl) (hpl : ∀ i, (backTo pos (starEach es (X i).env)).any (·.1) = false := by exact fun _ => rfl) (hdb : (f == ("__debug__" : Str)) = false := by decide) :
    EvN X K E Γ R (.Call (.Name f p') (e :: es) [] pos) (fun n : Addr × {n : ρ // post x1 x2 x3 x4 x5 n} => R1 ++ [rL n.1 (lst n.2.1)]) (fun n => sv (.ref n.1)) := ev_callN (p' := p') F C (x1, x2, x3, x4, x5) ha hpre hg he hpl hdb
theorem fnE5 {α β γ δ ε ρ : Type} {pre : α → β → γ → δ → ε → Prop} {d1 : α → Sl} {d2 : β → Sl} {d3 : γ → Sl} {d4 : δ → Sl} {d5 : ε → Sl} {post : α → β → γ → δ → ε → ρ → Prop} {res : ρ → Sl} (F : Fun K x qual st fa fd) (Sc : FnScope N ps (defScope st)) (hl : ps.length = 5) (hb : ∀ x1 x2 x3 x4 x5, pre x1 x2 x3 x4 x5 → BodyOk P w K mg base N qual st fa k (ν := {n : ρ // post x1 x2 x3 x4 x5 n}) [d1 x1, d2 x2, d3 x3, d4 x4, d5 x5] (fun _ => []) (fun n => res n.1)) : FnOk P w K mg base CX0 (k + 1) fa fd ps (spE5 K pre d1 d2 d3 d4 d5 post res) :=
  fn_ok F Sc (fun _ => hl.symm) fun i cdv A outer s H S0 A0 E Q hr hp hq => hb (i.1) (i.2.1) (i.2.2.1) (i.2.2.2.1) (i.2.2.2.2) hp cdv A outer s H S0 A0 E Q hr (fam_fx Sc) hq
theorem fnM5 {α β γ δ ε ρ : Type} {pre : α → β → γ → δ → ε → Prop} {d1 : α → Sl} {d2 : β → Sl} {d3 : γ → Sl} {d4 : δ → Sl} {d5 : ε → Sl} {post : α → β → γ → δ → ε → ρ → Prop} {lst : ρ → List PyData} (F : Fun K x qual st fa fd) (Sc : FnScope N ps (defScope st)) (hl : ps.length = 5) (hb : ∀ x1 x2 x3 x4 x5, pre x1 x2 x3 x4 x5 → BodyOk P w K mg base N qual st fa k (ν := Addr × {n : ρ // post x1 x2 x3 x4 x5 n}) [d1 x1, d2 x2, d3 x3, d4 x4, d5 x5] (fun n => [rL n.1 (lst n.2.1)]) (fun n => sv (.ref n.1))) : FnOk P w K mg base CX0 (k + 1) fa fd ps (spM5 K pre d1 d2 d3 d4 d5 post lst) :=
  fn_ok F Sc (fun _ => hl.symm) fun i cdv A outer s H S0 A0 E Q hr hp hq => hb (i.1) (i.2.1) (i.2.2.1) (i.2.2.2.1) (i.2.2.2.2) hp cdv A outer s H S0 A0 E Q hr (fam_fx Sc) hq
theorem retX {ρ : Type} {post : ρ → Prop} {res : ρ → Sl} {Q : VK} (hq : RetOk (ν := {n : ρ // post n}) K E (fun _ => []) (fun n => res n.1) Q) (n : ρ) (hp : post n) (h : s = res n) : ∀ S σ H v, SR K E Γ R1 S σ H → s.r K S v → Q v H := fun S σ H v q r => hq ⟨n, hp⟩ Γ S σ H v (SR.drop (R := []) q) (by subst h; exact r)
theorem retMK {ρ : Type} {post : ρ → Prop} {lst : ρ → List PyData} (k : Nat) {p : Addr} {ds' : List PyData} {Q : VK} (hq : RetOk (ν := Addr × {n : ρ // post n}) K E (fun n => [rL n.1 (lst n.2.1)]) (fun n => sv (.ref n.1)) Q) (n : ρ) (hp : post n) (h : ds' = lst n) (hk : R1[k]? = some (rL p ds') := by rfl) : ∀ S σ H v, SR K E Γ R1 S σ H → (sv (.ref p)).r K S v → Q v H := fun S σ H v q r => by
  subst h
  exact hq (p, ⟨n, hp⟩) Γ S σ H v (q.pick k hk) r
theorem retML {ρ : Type} {post : ρ → Prop} {lst : ρ → List PyData} {ds' : List PyData} {Q : VK} (hq : RetOk (ν := Addr × {n : ρ // post n}) K E (fun n => [rL n.1 (lst n.2.1)]) (fun n => sv (.ref n.1)) Q) (n : ρ) (hp : post n) (h : ds' = lst n) : ∀ p S σ H v, SR K E Γ (R1 ++ [rL p ds']) S σ H → (sv (.ref p)).r K S v → Q v H := fun p S σ H v q r => by
  subst h
  exact hq (p, ⟨n, hp⟩) Γ S σ H v (q.pick R1.length (by simp)) r
end
end SL

/-! texts by their signs -/
namespace SL
open PySem PySem.Spec PyProof.Rows L2
def tx (l : List Nat) : Str := ⟨l.toArray⟩
def sg (x : Str) : List Nat := x.cps.toList
theorem sg_tx (l : List Nat) : sg (tx l) = l := rfl
theorem tx_sg (x : Str) : tx (sg x) = x := rfl
theorem len_sg (x : Str) : x.length = (sg x).length := rfl
theorem len_tx (l : List Nat) : (tx l).length = l.length := by rw [len_sg, sg_tx]
theorem sg_inj {x y : Str} (h : sg x = sg y) : x = y := by rw [← tx_sg x, ← tx_sg y, h]
theorem sg_app (x y : Str) : sg (x ++ y) = sg x ++ sg y := by
  show (x.cps ++ y.cps).toList = _
  rw [Array.toList_append]
  rfl
theorem tx_app (l m : List Nat) : tx l ++ tx m = tx (l ++ m) := sg_inj (by rw [sg_app]; rfl)
theorem sg_cut (x : Str) (lo hi : Option Int) : sg (cutS x lo hi) = cutD (sg x) lo hi := rfl
theorem tx_cut (l : List Nat) (lo hi : Option Int) : cutS (tx l) lo hi = tx (cutD l lo hi) := by
  apply sg_inj
  rw [sg_cut, sg_tx, sg_tx]
theorem cutD_len {α : Type} (l : List α) (lo hi : Option Int) : (cutD l lo hi).length ≤ l.length := by
  unfold cutD
  rw [List.length_take, List.length_drop]
  omega
theorem cutS_len (x : Str) (lo hi : Option Int) : (cutS x lo hi).length ≤ x.length := cutD_len (sg x) lo hi
theorem cutD_to {α : Type} (l : List α) {k : Nat} (h : k ≤ l.length) : cutD l none (some (k : Int)) = l.take k := by
  unfold cutD
  rw [HT.sIx_nat, HT.sIx_none, List.drop_zero, Nat.sub_zero, Nat.min_eq_left h]
theorem cutD_from {α : Type} (l : List α) {k : Nat} (h : k ≤ l.length) : cutD l (some (k : Int)) none = l.drop k := by
  unfold cutD
  rw [HT.sIx_nat, HT.sIx_none, Nat.min_eq_left h, List.take_of_length_le]
  rw [List.length_drop]
  exact Nat.le_refl _
theorem cutD_mid {α : Type} (l : List α) {k m : Nat} (h : k ≤ l.length) (hm : m ≤ l.length) : cutD l (some (k : Int)) (some (m : Int)) = (l.drop k).take (m - k) := by
  unfold cutD
  rw [HT.sIx_nat, HT.sIx_nat, Nat.min_eq_left h, Nat.min_eq_left hm]
theorem app_len (x y : Str) : (x ++ y).length = x.length + y.length := by rw [len_sg, sg_app, List.length_append]; rfl
theorem sign_len (n : Nat) : (⟨#[n]⟩ : Str).length = 1 := rfl
theorem sg_join (y : Str) (ls : List Str) : sg (Txt.join y ls) = TL.joinL (sg y) (ls.map sg) := by
  have h := eq_of_beq (join_plain_closes y ls)
  rw [h]
  exact TL.tl_join y ls
theorem joinL_nil : ∀ ls : List (List Nat), TL.joinL [] ls = ls.flatten
  | [] => rfl
  | [p] => by simp [TL.joinL]
  | p :: q :: r => by rw [TL.joinL, joinL_nil (q :: r)]; simp
theorem sg_join0 (ls : List Str) : sg (Txt.join ("" : Str) ls) = (ls.map sg).flatten := by
  rw [sg_join]
  exact joinL_nil _
theorem join_signs {α : Type} (f : α → Nat) (xs : List α) : Txt.join ("" : Str) (xs.map fun a => (⟨#[f a]⟩ : Str)) = tx (xs.map f) := by
  apply sg_inj
  rw [sg_join0, sg_tx, List.map_map]
  induction xs with
  | nil => rfl
  | cons a xs ih => rw [List.map_cons, List.flatten_cons, ih]; rfl
theorem join_sum {α : Type} (f : α → Nat) (xs : List α) : ((List.map dstr (xs.map fun a => PyData.str ⟨#[f a]⟩)).map (·.length)).sum = xs.length := by
  induction xs with
  | nil => rfl
  | cons a xs ih =>
    simp only [List.map_cons, List.sum_cons, ih, List.length_cons]
    show 1 + _ = _
    omega
theorem join_txt {α : Type} (f : α → Nat) (xs : List α) : Txt.join ("" : Str) (List.map dstr (xs.map fun a => PyData.str ⟨#[f a]⟩)) = tx (xs.map f) := by
  rw [List.map_map]
  exact join_signs f xs
theorem sz {n : Nat} (h : n ≤ 16777216) : n ≤ sizeLine := by rw [sizeLine_eq]; exact h
section
variable {ι : Type} {X : ι → Cx} {K : PySem.W.Frag} {E : Ent} {Γ : Slots} {R : List Res} {pos : Pos} {P : Program} {w : World} {mg : Str → Option Value} {base : Heap} {A : Around} {N : List Str} {x y : Str} {i : Int}
theorem ev_globS (F : Fam X P w K mg base A N) (hm : ∃ t, mg x = some (.str y t)) (hg : ∀ i, Gl (X i) x := by exact fun _ => rfl) (hd : (x == ("__debug__" : Str)) = false := by decide) : EvJ X K E Γ R (.Name x pos) R (dS y) := let ⟨t, h⟩ := hm; ev_glob F h ⟨t, rfl⟩ hg hd
theorem ev_globI (F : Fam X P w K mg base A N) (hm : ∃ t, mg x = some (.int i t)) (hg : ∀ i, Gl (X i) x := by exact fun _ => rfl) (hd : (x == ("__debug__" : Str)) = false := by decide) : EvJ X K E Γ R (.Name x pos) R (dI i) := let ⟨t, h⟩ := hm; ev_glob F h ⟨t, rfl⟩ hg hd
end
end SL

/-! more of texts; items set -/
namespace SL
open PySem PySem.Spec PyProof.Rows L2
def tRevS (te : TE) : TE := fun σ H Q => te σ H fun x H1 => ∃ z, x = .str z ∧ z.length ≤ sizeLine ∧ Q (.str (tx (sg z).reverse)) H1
theorem rev_by (x : Str) (u : Tok) : ((Builtin.Str.strSliceIndices none none (-1) x.length).filterMap (x.cps[·]?)).toArray = (tx (sg x).reverse).cps := by
  have h := step_rev_list x u
  have h2 : (Txt.sliceBy x none none (-1, u)).cps.toList = ((Builtin.Str.strSliceIndices none none (-1) x.length).filterMap (x.cps[·]?)).toArray.toList := by
    unfold Txt.sliceBy
    rw [if_neg]
    · rfl
    · have : ((((some ((-1 : Int), u)).map (·.1)).getD 1 == 1)) = false := rfl
      rw [this]; simp
  apply Array.toList_inj.mp
  rw [← h2, h]
  show _ = (sg x).reverse
  apply List.ext_getElem?
  intro k
  have hl : (sg x).length = x.length := rfl
  by_cases hk : k < x.length
  · rw [List.getElem?_map, List.getElem?_range hk, List.getElem?_reverse (by omega), hl]
    show some (x.cps.getD (x.length - 1 - k) 0) = _
    have h3 : x.length - 1 - k < x.cps.size := by show _ < x.length; omega
    simp only [sg, Array.getElem?_toList]
    rw [Array.getElem?_eq_getElem h3]
    simp [Array.getD, h3]
  · rw [List.getElem?_eq_none (by simp; omega), List.getElem?_eq_none (by simp; omega)]
theorem pe_revS {X : Cx} {e : Expr} {te : TE} {k : Nat} {p1 p2 p3 pos : Pos} (he : PE X e te) : PE X (.Subscript e (.Slice none none (some (.UnaryOp .USub (.Constant (.int 1) k p1) p2)) p3) pos) (tRevS te) := by
  refine ⟨fun pins s σ H Q I h => ?_⟩
  refine Subscript_ (thn (he.run pins s σ H _ I h) fun v s1 ⟨x, H1, I1, r1, q1⟩ => ?_)
  obtain ⟨z, ex, hz, q⟩ := q1
  subst ex
  obtain ⟨t, rfl⟩ := r1
  have hst : PO X (some (.UnaryOp .USub (.Constant (.int 1) k p1) p2)) (tPart (tUn (rU fun i => .int (-i)) (tC (.int 1)))) := po_some (pe_un un_neg pe_int)
  refine wpAny_Slice (thn (po_none.run pins s1 σ H1 (fun o H2 => o = none ∧ H2 = H1) I1 ⟨rfl, rfl⟩) fun vl s2 ⟨l, H2, I2, pl, el, e2⟩ => ?_)
  subst el e2
  refine thn (po_none.run pins s2 σ H2 (fun o H3 => o = none ∧ H3 = H2) I2 ⟨rfl, rfl⟩) fun vu s3 ⟨u, H3, I3, pu, eu, e3⟩ => ?_
  subst eu e3
  refine thn (hst.run pins s3 σ H3 (fun o H4 => o = some (-1) ∧ H4 = H3) I3 ⟨1, rfl, -1, rfl, rfl, rfl⟩) fun vs s4 ⟨o, H4, I4, ps, eo, e4⟩ => ?_
  subst eo e4
  obtain ⟨l, rfl, el⟩ := IsPart.raw pl
  obtain ⟨u, rfl, eu⟩ := IsPart.raw pu
  obtain ⟨st, rfl, est⟩ := IsPart.raw ps
  have el' : l = none := by cases l with | none => rfl | some _ => cases el
  have eu' : u = none := by cases u with | none => rfl | some _ => cases eu
  obtain ⟨tk, est'⟩ : ∃ tk, st = some (-1, tk) := by
    cases st with
    | none => cases est
    | some p => obtain ⟨i, tk⟩ := p; cases est; exact ⟨tk, rfl⟩
  subst el' eu' est'
  have I5 : Inv X pins σ H4 { s4 with heap := s4.heap.push { cls := .type "slice", data := .fields #[partValue none, partValue none, partValue (some (-1, tk))] } } := I4.kept (t' := s4.toks) fun b ob q => Heap.get?_push_of_some _ q
  show wpAny (model X.prog X.w) X.A (subscriptTail e (.Slice none none (some (.UnaryOp .USub (.Constant (.int 1) k p1) p2)) p3) (.str z t) (.ref s4.heap.objs.size)) (EP X pins σ Q) X.xe { s4 with heap := s4.heap.push { cls := .type "slice", data := .fields #[partValue none, partValue none, partValue (some (-1, tk))] } }
  refine tail_any (ops := [.str z t, .ref s4.heap.objs.size]) (typeIs_str _ z t) F.slot_str_getitem.lookup ?_ (by with_unfolding_all rfl)
  refine wpAny_getItem_str_slice (l := none) (u := none) (st := some (-1, tk)) ⟨_, Heap.get?_push_size _ rfl, rfl, rfl⟩ rfl ?_
  unfold sliceMade
  rw [if_neg (by
    have : ((((some ((-1 : Int), tk)).map (·.1)).getD 1 == 1)) = false := rfl
    rw [this]; simp)]
  have e : (⟨((slicePicked z none none (some (-1, tk))).filterMap (z.cps[·]?)).toArray⟩ : Str) = tx (sg z).reverse := by
    show Str.mk _ = Str.mk _
    exact congrArg Str.mk (rev_by z tk)
  rw [e]
  refine ⟨?_, .str _, H4, I5.tok _, ⟨_, rfl⟩, q⟩
  rw [len_tx, List.length_reverse]
  exact hz
section
variable {ι : Type} {X : ι → Cx} {K : PySem.W.Frag} {E : Ent} {B : Hp} {Γ Γ' : Slots} {R R' R1 R2' R3 : List Res} {a b c e o : Expr} {es : List Expr} {pos p' : Pos} {s s1 s2 s3 : Sl}
  {P : Program} {w : World} {mg : Str → Option Value} {base : Heap} {A : Around} {N : List Str} {rest sts : List Stmt} {D : Ends} {S S' H H' : Hp} {σ σ' : L2.St} {f : Str} {ps : List Str} {i j : Int} {x y : Str}
theorem ev_revS {k1 : Nat} {q1 q2 p2 : Pos} (he : EvJ X K E Γ R e R1 (dS x)) (hz : x.length ≤ sizeLine) : EvJ X K E Γ R (.Subscript e (.Slice none none (some (.UnaryOp .USub (.Constant (.int 1) k1 q1) q2)) p2) pos) R1 (dS (tx (sg x).reverse)) := by
  obtain ⟨t, a1, a2⟩ := he
  refine ⟨tRevS t, fun n => pe_revS (a1 n), fun S σ H Q q k => a2 S σ H _ q fun v S1 H1 e1 q1 r1 => ?_⟩
  cases (show v = .str x from r1)
  exact ⟨x, rfl, hz, k _ S1 H1 e1 q1 rfl⟩
theorem find_sign {x : Str} {n : Nat} (h : n ∈ x.cps.toList) : ∃ i rest, Builtin.Str.occurrences x ⟨#[n]⟩ 0 x.length 1 = i :: rest ∧ Txt.find x ⟨#[n]⟩ = (i : Int) := by
  have := PySem.StrLaws.found_one x n
  rw [decide_eq_true h] at this
  cases e : Builtin.Str.occurrences x ⟨#[n]⟩ 0 x.length 1 with
  | nil => rw [e] at this; cases this
  | cons i rest =>
    refine ⟨i, rest, rfl, ?_⟩
    unfold Txt.find
    rw [e]
/-- s.index(sign), where it is found -/
theorem ev_index (F : Fam X P w K mg base A N) {apos : Pos} {n : Nat} (ho : EvJ X K E Γ R o R (dS x)) (ha : EvJ X K E Γ R e R (dS ⟨#[n]⟩)) (hn : n ∈ x.cps.toList)
    (hbase : ∀ i, attributeBase o "index" (X i).env (eval o (X i).env) = eval o (X i).env := by exact fun _ => rfl)
    (hfew : ∀ i, ((backTo pos (starEach [e] (X i).env)).all (fun x => !x.1) && (backToKw pos (keywordEach [] (X i).env)).all (fun x => x.1.isSome) && decide ([e].length + ([] : List Keyword).length + (if ([] : List Keyword).isEmpty then 0 else 1) < 30)) = true := by exact fun _ => rfl)
    (hline : (apos.endLine == pos.line) = true := by rfl) (hst : ∀ i, starEach [e] (X i).env = (false, eval e (X i).env) :: starEach [] (X i).env := by exact fun _ => rfl) (hplain : ∀ i, (backTo pos (starEach [] (X i).env)).any (·.1) = false := by exact fun _ => rfl) :
    EvJ X K E Γ R (.Call (.Attribute o "index" apos) [e] [] pos) R (dI (Txt.find x ⟨#[n]⟩)) := by
  obtain ⟨i, rest, h1, h2⟩ := find_sign hn
  refine ev_mt F PySem.F.plainAttrs_str PySem.F.slot_str_index PySem.F.type_str_index ho (ar_cons ha ar_nil hst) ⟨_, fun n => mt_sindex, fun Γ S σ H v q r => by cases (show v = .str x from r); rfl, fun Γ S σ H v xs Q q r1 r2 k' => ?_⟩ hbase hfew hline hst hplain
  obtain ⟨u, rfl, r3⟩ := all2_one r2
  cases (show v = .str x from r1)
  cases (show u = .str ⟨#[n]⟩ from r3)
  exact ⟨x, _, i, rest, rfl, rfl, h1, k' _ S H (Same.refl _) q (by rw [h2]; rfl)⟩
theorem ixN_in {n : Nat} {j : Int} (h0 : 0 ≤ j) (h1 : j < n) : ixN n j = some j.toNat := by
  unfold ixN
  rw [if_pos h0, if_pos (by omega)]
/-- xs[i] = v, xs one's own -/
theorem blk_setItem (F : Fam X P w K mg base A N) (k : Nat) {p : Addr} {ds : List PyData} {d : PyData} {p2 : Pos} {value i : Expr} (hv : EvJ X K E Γ R value R1 s) (ho : EvJ X K E Γ R1 o R1 (sv (.ref p))) (hi : EvJ X K E Γ R1 i R1 (dI j)) (hd : ∀ K S v, s.r K S v → Da K S v d) (hk : R1[k]? = some (rL p ds)) (h0 : 0 ≤ j) (h1 : j < ds.length)
    (hr' : Blk X K E B Γ (R1.set k (rL p (ds.set j.toNat d))) rest D) (hs : ∀ m, swapsWithSole [.Subscript o i p2] value pos.line (X m).env = pure false := by exact fun _ => rfl) (hw : ∀ m, swappedStores [.Subscript o i p2] value (X m).env = pure none := by exact fun _ => rfl)
    (hh : ∀ m, (assignEach [.Subscript o i p2] (X m).env).map (·.2) = [assign (.Subscript o i p2) (X m).env] := by exact fun _ => rfl)
    (ha : ∀ m v, assign (.Subscript o i p2) (X m).env v = (do
      let ov ← holding [v] (eval o (X m).env)
      let iv ← holding [v, ov] (eval i (X m).env)
      standAt p2
      holding [v, ov, iv] (setItem ov iv v)
      release [v, ov, iv] []) := by exact fun _ _ => rfl) :
    Blk X K E B Γ R (.Assign [.Subscript o i p2] value pos :: rest) D := by
  obtain ⟨tv, v1, v2⟩ := hv
  obtain ⟨to, o1, o2⟩ := ho
  obtain ⟨ti, i1, i2⟩ := hi
  obtain ⟨u, g1, g2⟩ := hr'
  refine ⟨tSeq (tAsg tv (gSub to ti rSetL)) u, fun m => pss_cons (ps_asg (v1 m) (pg_sub (o1 m) (i1 m) set_list (ha m)) (hs m) (hw m) (hh m)) (g1 m), fun S σ H b q => ?_⟩
  refine v2 S σ H _ q fun v S1 H1 e1 q1 r1 => o2 S1 σ H1 _ q1 fun vo S2 H2 e2 q2 r2 => i2 S2 σ H2 _ q2 fun vi S3 H3 e3 q3 r3 => ?_
  cases (show vo = .ref p from r2)
  cases (show vi = .int j from r3)
  obtain ⟨vs, c1, c2⟩ := q3.cellL k hk
  have hl := daAll_len c2
  exact ⟨p, vs, j, j.toNat, rfl, rfl, c1, ixN_in h0 (by omega), g2 S3 σ _ (b.trans ((e1.trans e2).trans e3)) (q3.putL k hk (daAll_set (hd K S3 v (s.mono (e2.trans e3) r1)) _ c2))⟩
end
end SL

/-! loops and ifs with something chosen -/
namespace SL
open PySem PySem.Spec PyProof.Rows L2
section
variable {ι : Type} {X : ι → Cx} {K : PySem.W.Frag} {E : Ent} {B : Hp} {Γ Γ' : Slots} {R R' R1 R2' R3 : List Res} {a b c e o : Expr} {es : List Expr} {pos p' : Pos} {s s1 s2 s3 : Sl}
  {P : Program} {w : World} {mg : Str → Option Value} {base : Heap} {A : Around} {N : List Str} {rest sts : List Stmt} {D : Ends} {S S' H H' : Hp} {σ σ' : L2.St} {f : Str} {ps : List Str} {i j : Int} {x y : Str}
def PstX (K : PySem.W.Frag) (E : Ent) (B : Hp) {γ : Type} (I : γ → Prop) (G : γ → Slots) (RR : γ → List Res) : L2.St → Hp → Prop := fun σ H => ∃ g, I g ∧ Pst K E B (G g) (RR g) σ H
theorem blk_endX {γ : Type} {I : γ → Prop} {G : γ → Slots} {RR : γ → List Res} (hD : D.nx = PstX K E B I G RR) (g : γ) (hw : ∀ S σ H, SR K E Γ R S σ H → SR K E (G g) (RR g) S σ H) (hI : I g) : Blk X K E B Γ R [] D :=
  blk_nil fun S σ H b q => by rw [hD]; exact ⟨g, hI, S, b, hw S σ H q⟩
theorem blk_forX {α γ : Type} {tg iter : Expr} {bd : List Stmt} {C : List Res → Prop} {us : List Nat} {xs : List α} {it : α → Sl} {up : α → Slots → Slots} (I : List α → γ → Prop) (G : List α → γ → Slots) (RR : List α → γ → List Res)
    (F : Fam X P w K mg base A N) (hp : ∀ i, PassesOwn (model (X i).prog (X i).w) (X i).A (X i).env (X i).xe) (hi : ItJ X K E Γ R tg iter R1 (xs.map it) C) (htg : TgA X K E tg it up us)
    (g0 : γ) (hI0 : I [] g0) (h0 : ∀ S σ H, SR K E Γ R1 S σ H → SR K E (G [] g0) (RR [] g0) S σ H) (hC : ∀ pre g, I pre g → C (RR pre g))
    (hb : ∀ pre x post g B' (Z : L2.St → Hp → Prop), xs = pre ++ x :: post → I pre g → Blk X K E B' (up x (G pre g)) (RR pre g) bd { nx := PstX K E B' (I (pre ++ [x])) (G (pre ++ [x])) (RR (pre ++ [x])), rt := D.rt, bk := Z, ct := PstX K E B' (I (pre ++ [x])) (G (pre ++ [x])) (RR (pre ++ [x])) })
    (hr : ∀ g, I xs g → Blk X K E B (G xs g) (RR xs g) rest D) (hs : ∀ i x, foldedSetIterable iter (X i).env x = pure x := by exact fun _ _ => rfl) (hcm : ∀ i, (X i).calm = true := by exact fun _ => rfl) : Blk X K E B Γ R (.For tg iter bd [] pos :: rest) D := by
  obtain ⟨wi, w1, w2⟩ := hi
  obtain ⟨tt, t1, t2⟩ := htg
  have hr' := fun (n : { g : γ // I xs g }) => Classical.choose_spec (hr n.1 n.2)
  have hb' := fun (n : { q : List α × α × List α × γ × Hp × (L2.St → Hp → Prop) // xs = q.1 ++ q.2.1 :: q.2.2.1 ∧ I q.1 q.2.2.2.1 }) => Classical.choose_spec (hb n.1.1 n.1.2.1 n.1.2.2.1 n.1.2.2.2.1 n.1.2.2.2.2.1 n.1.2.2.2.2.2 n.2.1 n.2.2)
  refine ⟨tSeq (tFor wi tt _) _, fun i => pss_cons (ps_for (hp i) (hcm i) (w1 i) (t1 i) (pss_any fun n => (hb' n).1 i) (hs i)) (pss_any fun n => (hr' n).1 i), fun S σ H b q => ?_⟩
  refine w2 S σ H _ q fun J S1 H1 e1 q1 hJ => ?_
  refine ⟨fun n m σ H => m = xs.length - n ∧ n ≤ xs.length ∧ ∃ g S', I (xs.take n) g ∧ Same S1 S' ∧ SR K E (G (xs.take n) g) (RR (xs.take n) g) S' σ H, ⟨xs.length, by simp, Nat.zero_le _, g0, S1, hI0, Same.refl _, h0 S1 σ H1 q1⟩, ?_⟩
  rintro n m σ2 H2 ⟨rfl, hn, g, S2, hIg, e2, q2⟩
  obtain ⟨g1, g2⟩ := hJ n _ _ S2 σ2 H2 e2 q2 (hC _ _ hIg)
  by_cases hlt : n < xs.length
  · have hx : xs[n]? = some xs[n] := List.getElem?_eq_getElem hlt
    have hsplit : xs = xs.take n ++ xs[n] :: xs.drop (n + 1) := by rw [← List.drop_eq_getElem_cons hlt, List.take_append_drop]
    have htake : xs.take (n + 1) = xs.take n ++ [xs[n]] := by rw [List.take_succ, hx]; rfl
    obtain ⟨go, hy⟩ := g1 (it xs[n]) (by rw [List.getElem?_map, hx]; rfl)
    refine .inr ⟨go, PstX K E S2 (I (xs.take n ++ [xs[n]])) (G (xs.take n ++ [xs[n]])) (RR (xs.take n ++ [xs[n]])), fun σ' H' ⟨g', hI', S', e', q'⟩ => ⟨xs.length - (n + 1), by omega, rfl, hlt, g', S', by rw [htake]; exact hI', e2.trans e', by rw [htake]; exact q'⟩, fun x H' hx' => ?_⟩
    obtain ⟨S3, e3, q3, r3⟩ := hy x H' hx'
    refine t2 xs[n] _ _ S3 σ2 H' x _ q3 r3 fun σ4 q4 _ _ => ?_
    exact ⟨⟨(xs.take n, xs[n], xs.drop (n + 1), g, S2, _), hsplit, hIg⟩, (hb' ⟨(xs.take n, xs[n], xs.drop (n + 1), g, S2, _), hsplit, hIg⟩).2 S3 σ4 H' e3 q4⟩
  · have e : n = xs.length := by omega
    subst e
    rw [List.take_length] at q2 hIg
    exact .inl ⟨g2 (by rw [List.length_map]; exact Nat.le_refl _), ⟨⟨g, hIg⟩, (hr' ⟨g, hIg⟩).2 S2 σ2 H2 (b.trans (e1.trans e2)) q2⟩⟩
theorem blk_ifX {γ : Type} (I : γ → Prop) (G : γ → Slots) (RR : γ → List Res) {bd be : List Stmt} {k : Bool} (hc : TeJ X K E Γ R c k) (ha : k = true → Blk X K E B Γ R bd { nx := PstX K E B I G RR, rt := D.rt, bk := D.bk, ct := D.ct })
    (hb : k = false → Blk X K E B Γ R be { nx := PstX K E B I G RR, rt := D.rt, bk := D.bk, ct := D.ct }) (hr : ∀ g, I g → Blk X K E B (G g) (RR g) rest D) : Blk X K E B Γ R (.If c bd be pos :: rest) D := by
  obtain ⟨tc, c1, c2⟩ := hc
  have hr' := fun (n : { g : γ // I g }) => Classical.choose_spec (hr n.1 n.2)
  cases k with
  | true =>
    obtain ⟨t, h1, h2⟩ := ha rfl
    exact ⟨Evl.tCut (tIfS tc t (fun _ _ _ => False)) _, fun i => Evl.pss_cut (ps_if (c1 i) (h1 i) pss_of_never) (pss_any fun n => (hr' n).1 i), fun S σ H b q => ⟨PstX K E B I G RR, c2 S σ H _ q fun S1 H1 e1 q1 => iteT (h2 S1 σ H1 (b.trans e1) q1), fun σ' H' ⟨g, hg, S2, e2, q2⟩ => ⟨⟨g, hg⟩, (hr' ⟨g, hg⟩).2 S2 σ' H' e2 q2⟩⟩⟩
  | false =>
    obtain ⟨t, h1, h2⟩ := hb rfl
    exact ⟨Evl.tCut (tIfS tc (fun _ _ _ => False) t) _, fun i => Evl.pss_cut (ps_if (c1 i) pss_of_never (h1 i)) (pss_any fun n => (hr' n).1 i), fun S σ H b q => ⟨PstX K E B I G RR, c2 S σ H _ q fun S1 H1 e1 q1 => iteF (h2 S1 σ H1 (b.trans e1) q1), fun σ' H' ⟨g, hg, S2, e2, q2⟩ => ⟨⟨g, hg⟩, (hr' ⟨g, hg⟩).2 S2 σ' H' e2 q2⟩⟩⟩
/-- weaker, with things let go -/
theorem wkD {R2 : List Res} (hR : R = R' ++ R2) (h : All2 WkS Γ' Γ) : ∀ S σ H, SR K E Γ R S σ H → SR K E Γ' R' S σ H := by
  subst hR
  exact fun S σ H q => wkG h S σ H (SR.drop q)
/-- xs * k -/
theorem daAll_rep {vs : List V} {ds : List PyData} (h : DaAll K S vs ds) : ∀ n : Nat, DaAll K S (List.replicate n vs).flatten (List.replicate n ds).flatten
  | 0 => .nil
  | n + 1 => by rw [List.replicate_succ, List.replicate_succ, List.flatten_cons, List.flatten_cons]; exact daAll_app h (daAll_rep h n)
theorem bn_rep {ds : List PyData} (h1 : LV K R s1 ds) (h0 : 0 ≤ i) (h2 : i ≤ 1000000) (hz : ds.length * i.toNat ≤ 10000000) : BinRN X K E (binaryOp .Mult) R s1 (dI i) (fun p : Addr => R ++ [rL p (List.replicate i.toNat ds).flatten]) (fun p => sv (.ref p)) :=
  ⟨rRep, fun _ => op_rep, fun Γ S σ H x y Q q r1 r2 k => by
    obtain ⟨p, vs, rfl, g1, g2⟩ := h1 E Γ S σ H x q r1
    cases (show y = .int i from r2)
    have hl := daAll_len g2
    have : (sizeLine : Nat) = 16777216 := sizeLine_eq
    exact ⟨p, i, vs, rfl, rfl, g1, by omega, by omega, by rw [hl]; omega, fun l hl => k l _ S _ (Same.refl _) (q.mine hl ⟨_, rfl, daAll_rep g2 _⟩) rfl⟩⟩
theorem flat_one {α : Type} (n : Nat) (x : α) : (List.replicate n [x]).flatten = List.replicate n x := by
  induction n with
  | zero => rfl
  | succ n ih => rw [List.replicate_succ, List.flatten_cons, ih]; rfl
theorem sl_bools {ns : List Bool} : (ns.map PyData.bool).map sl = ns.map dB := by
  rw [List.map_map]
  rfl
theorem cutD_map {α β : Type} (f : α → β) (l : List α) (lo hi : Option Int) : cutD (l.map f) lo hi = (cutD l lo hi).map f := by
  unfold cutD
  rw [List.length_map, List.map_take, List.map_drop]
end
end SL

/-! calls to which lists of one's own are lent: the def reads them, what it hands back has no lists of theirs -/
namespace SL
open PySem PySem.Spec PyProof.Rows L2
/-- S'' is S but for lists -/
def ButL (S S'' : Hp) : Prop := ∀ a, S'' a = S a ∨ (S'' a = none ∧ ∃ xs, S a = some (.lst xs))
def Flat (s : Sl) : Prop := ∀ K S S'' v, ButL S S'' → s.r K S v → s.r K S'' v
def FlatR (ρ : Res) : Prop := ∀ K S S'' O, ButL S S'' → ρ.r K S O → ρ.r K S'' O
mutual
/-- data without lists -/
def fl : PyData → Bool
  | .list _ => false
  | .tuple xs => flA xs
  | .dict _ => false
  | _ => true
def flA : List PyData → Bool
  | [] => true
  | x :: xs => fl x && flA xs
end
theorem butL_rd {S S'' : Hp} {a : Addr} {xs : List V} (h : ButL S S'') (e : Rd S a (.tup xs)) : Rd S'' a (.tup xs) := by
  rcases e with e | ⟨o, e⟩
  · rcases h a with z | ⟨_, ys, z⟩
    · exact .inl (z.trans e)
    · rw [e] at z; cases z
  · rcases h a with z | ⟨_, ys, z⟩
    · exact .inr ⟨o, z.trans e⟩
    · rw [e] at z; cases z
theorem butL_t {K : PySem.W.Frag} {S S'' : Hp} {a : Addr} {xs : List V} (h : ButL S S'') (e : SqT K S a xs) : SqT K S'' a xs := by
  rcases e with e | e
  · exact .inl (butL_rd h e)
  · exact .inr e
mutual
theorem da_butL {K : PySem.W.Frag} {S S'' : Hp} (h : ButL S S'') : ∀ {v : V} {d : PyData}, fl d = true → Da K S v d → Da K S'' v d
  | _, _, _, .non => .non
  | _, _, _, .bl b => .bl b
  | _, _, _, .int i => .int i
  | _, _, _, .str x => .str x
  | _, _, e, .lst _ _ => nomatch e
  | _, _, e, .tup h1 r => .tup (butL_t h h1) (daAll_butL h (by rw [fl] at e; exact e) r)
theorem daAll_butL {K : PySem.W.Frag} {S S'' : Hp} (h : ButL S S'') : ∀ {vs : List V} {ds : List PyData}, flA ds = true → DaAll K S vs ds → DaAll K S'' vs ds
  | _, _, _, .nil => .nil
  | _, _, e, .cons h1 r => by
    rw [flA, Bool.and_eq_true] at e
    exact .cons (da_butL h e.1 h1) (daAll_butL h e.2 r)
end
theorem flat_v {v : V} : Flat (sv v) := fun _ _ _ _ _ h => h
theorem flat_d {d : PyData} (e : fl d = true) : Flat (sd d) := fun _ _ _ _ h r => da_butL h e r
theorem all2_flat {K : PySem.W.Frag} {S S'' : Hp} (h : ButL S S'') : ∀ {ss : List Sl} {vs : List V}, (∀ s ∈ ss, Flat s) → All2 (fun (s : Sl) v => s.r K S v) ss vs → All2 (fun (s : Sl) v => s.r K S'' v) ss vs
  | _, _, _, .nil => .nil
  | _, _, hf, .cons a t => .cons (hf _ (List.mem_cons_self ..) _ _ _ _ h a) (all2_flat h (fun s hs => hf s (List.mem_cons_of_mem _ hs)) t)
theorem flat_tup {ss : List Sl} (hf : ∀ s ∈ ss, Flat s) : Flat (stup ss) := fun K S S'' v h ⟨p, vs, e, h1, h2⟩ => ⟨p, vs, e, butL_t h h1, all2_flat h hf h2⟩
theorem flatA_nil : ∀ s ∈ ([] : List Sl), Flat s := fun _ h => nomatch h
theorem flatA_cons {s : Sl} {ss : List Sl} (h : Flat s) (r : ∀ t ∈ ss, Flat t) : ∀ t ∈ s :: ss, Flat t := fun t ht => (List.mem_cons.mp ht).elim (fun e => e ▸ h) (r t)
theorem flatR_l {p : Addr} {ds : List PyData} (e : flA ds = true) : FlatR (rL p ds) := fun K S S'' O h ⟨vs, h1, h2⟩ => ⟨vs, h1, daAll_butL h e h2⟩
theorem flA_map {α : Type} {f : α → PyData} (h : ∀ x, fl (f x) = true) : ∀ xs : List α, flA (xs.map f) = true
  | [] => rfl
  | x :: xs => by rw [List.map_cons, flA, h x, flA_map h xs]; rfl
/-- what is lent: s as it stands here, t as the def asks it -/
def LendA (R1 : List Res) (s t : Sl) : Prop := ∀ (K : PySem.W.Frag) (E : Ent) (Γ : Slots) (S S0 H : Hp) (σ : L2.St) (v : V), SR K E Γ R1 S σ H → Same S S0 → (∀ (k : Nat) (p : Addr) (ds : List PyData) (vs : List V), R1[k]? = some (rL p ds) → H p = some (.lst vs) → S0 p = some (.lst vs)) → s.r K S v → t.r K S0 v
theorem lend_id {R1 : List Res} {s : Sl} : LendA R1 s s := fun K E Γ S S0 H σ v q e h r => s.mono e r
theorem lend_o (k : Nat) {R1 : List Res} {p : Addr} {ds : List PyData} (hk : R1[k]? = some (rL p ds)) : LendA R1 (sv (.ref p)) (sd (.list ds)) := fun K E Γ S S0 H σ v q e h r => by
  cases (show v = .ref p from r)
  obtain ⟨vs, h1, h2⟩ := q.cellL k hk
  exact .lst (h k p ds vs hk h1) (daAll_same e h2)
section
variable {ι : Type} {X : ι → Cx} {K : PySem.W.Frag} {E : Ent} {B : Hp} {Γ Γ' : Slots} {R R' R1 R2' R3 : List Res} {a b c e : Expr} {es : List Expr} {pos p' : Pos} {s s1 s2 s3 : Sl}
  {P : Program} {w : World} {mg : Str → Option Value} {base : Heap} {A : Around} {N : List Str} {rest sts : List Stmt} {D : Ends} {S S' H H' : Hp} {σ σ' : L2.St} {f : Str} {ps : List Str}
theorem ev_callL {θ : Type} {ν : θ → Type} {pre : θ → Prop} {as : θ → List Sl} {Rn : ∀ i, ν i → List Res} {res : ∀ i, ν i → Sl} {ss : List Sl} (F : Fam X P w K mg base A N) (C : Cal P w K mg base A f ps (spJ K pre as (fun _ => []) Rn res)) (i : θ) (ha : ArJ X K E Γ R (e :: es) R1 ss) (hl : All2 (LendA R1) ss (as i)) (hpre : pre i)
    (hf : ∀ n, Flat (res i n)) (hfR : ∀ n, ∀ ρ ∈ Rn i n, FlatR ρ)
    (hg : ∀ i, Gl (X i) f := by exact fun _ => rfl) (he : ∀ i, starEach (e :: es) (X i).env = (false, eval e (X i).env) :: starEach es (X i).env := by exact fun _ => rfl) (hpl : ∀ i, (backTo pos (starEach es (X i).env)).any (·.1) = false := by exact fun _ => rfl) (hdb : (f == ("__debug__" : Str)) = false := by decide) :
    EvN X K E Γ R (.Call (.Name f p') (e :: es) [] pos) (fun n => R1 ++ Rn i n) (res i) := by
  obtain ⟨CX, k, fa, fd, hF, hr, hm, hk, hb, hx⟩ := C.ex
  obtain ⟨t, a1, a2⟩ := ha
  refine ⟨tCall (spJ K pre as (fun _ => []) Rn res) [] E0 t, fun j => ?_, fun S σ H Q q kk => a2 S σ H _ q fun vs S1 H1 e1 q1 r1 => ?_⟩
  · refine pe_call (CX := CX) (k := k) (f := fa) (fd := fd) (ps := ps) (ds := []) ?_ (by rw [F.fA j]; exact hr) (hg j) (by rw [F.fmg j]; exact hm) (by rw [F.fK j]; exact hk) (by rw [F.fK j]; exact hb) .nil (hx _ (F.fP j) (F.fw j)) (a1 j) hdb (he j) (hpl j)
    rw [F.fP j, F.fw j, F.fK j, F.fmg j, F.fbase j]
    exact hF
  · rw [List.append_nil]
    obtain ⟨Os, ⟨b1, b2⟩, b3⟩ := id q1.own
    -- the lasting part with the lists that are lent
    let S0 : Hp := fun x => match S1 x with
      | some u => some u
      | none => match H1 x with
        | some (.lst xs) => if ∃ O ∈ Os, O x ≠ none then some (.lst xs) else none
        | _ => none
    have s0_old : ∀ x u, S1 x = some u → S0 x = some u := fun x u h => by show (match S1 x with | some u => some u | none => _) = _; rw [h]
    have s0_new : ∀ x u, S0 x = some u → S1 x = none → ∃ xs, u = .lst xs ∧ H1 x = some (.lst xs) ∧ ∃ O ∈ Os, O x ≠ none := fun x u h hn => by
      have h' : (match S1 x with | some u => some u | none => match H1 x with | some (.lst xs) => if ∃ O ∈ Os, O x ≠ none then some (HO.lst xs) else none | _ => none) = some u := h
      rw [hn] at h'
      dsimp only at h'
      split at h'
      · rename_i xs hx
        split at h'
        · rename_i hO
          cases h'
          exact ⟨xs, rfl, hx, hO⟩
        · cases h'
      · cases h'
    have s0_H : Same S0 H1 := fun x u h => by
      cases h1 : S1 x with
      | some u' => rw [s0_old x u' h1] at h; cases h; exact q1.sub x u h1
      | none => obtain ⟨xs, e, h2, _⟩ := s0_new x u h h1; rw [e]; exact h2
    have s0_lend : ∀ (k : Nat) (p : Addr) (ds : List PyData) (us : List V), R1[k]? = some (rL p ds) → H1 p = some (.lst us) → S0 p = some (.lst us) := fun k p ds us hk hp => by
      obtain ⟨O, e2, ⟨ws, eO, _⟩, c2, c3⟩ := b1.get hk
      have hOp : O p ≠ none := by rw [eO, hOne_same]; exact fun z => nomatch z
      show (match S1 p with | some u => some u | none => match H1 p with | some (.lst xs) => if ∃ O ∈ Os, O p ≠ none then some (HO.lst xs) else none | _ => none) = some (.lst us)
      rw [c3 p hOp, hp]
      dsimp only
      rw [if_pos ⟨O, List.mem_of_getElem? e2, hOp⟩]
    have r0 : All2 (fun (s : Sl) v => s.r K S0 v) (as i) vs := by
      have : ∀ {ss ts : List Sl} {vs : List V}, All2 (LendA R1) ss ts → All2 (fun (s : Sl) v => s.r K S1 v) ss vs → All2 (fun (s : Sl) v => s.r K S0 v) ts vs := by
        intro ss ts vs h1
        induction h1 generalizing vs with
        | nil => intro h2; cases h2; exact .nil
        | cons p t ih =>
          intro h2
          cases h2 with
          | cons x y => exact .cons (p K E Γ S1 S0 H1 σ _ q1 (fun a u => s0_old a u) s0_lend x) (ih y)
      exact this hl r1
    refine ⟨i, S0, [], hpre, s0_H, r0, ⟨.nil, .nil⟩, fun n v S' H' Os' hfr hsub hext hnew hown hO hres => ?_⟩
    have none_of : ∀ x, ¬ InOs [] x := fun x ⟨O, hO, _⟩ => by simp at hO
    -- what lasts behind the call: without the lists that were lent
    let S2 : Hp := fun x => if S0 x ≠ none ∧ S1 x = none then none else S' x
    have s2_lent : ∀ x, S0 x ≠ none → S1 x = none → S2 x = none := fun x h1 h2 => if_pos ⟨h1, h2⟩
    have s2_else : ∀ x, ¬ (S0 x ≠ none ∧ S1 x = none) → S2 x = S' x := fun x h => if_neg h
    have s2_sub : ∀ x u, S2 x = some u → S' x = some u := fun x u h => by
      by_cases hc : S0 x ≠ none ∧ S1 x = none
      · rw [s2_lent x hc.1 hc.2] at h; cases h
      · rw [s2_else x hc] at h; exact h
    have e12 : Same S1 S2 := fun x u h => by
      rw [s2_else x (fun z => by rw [h] at z; exact nomatch z.2)]
      exact hext x u (s0_old x u h)
    have but : ButL S' S2 := fun x => by
      by_cases hc : S0 x ≠ none ∧ S1 x = none
      · cases h0 : S0 x with
        | none => exact absurd h0 hc.1
        | some u =>
          obtain ⟨xs, e, _⟩ := s0_new x u h0 hc.2
          subst e
          exact .inr ⟨s2_lent x hc.1 hc.2, xs, hext x _ h0⟩
      · exact .inl (s2_else x hc)
    refine kk n v S2 H' (e1.trans e12) ?_ (hf n _ _ _ _ but hres)
    have dis : ∀ (O : Hp), O ∈ Os → Same O H1 → (∀ x, O x ≠ none → S1 x = none) → ∀ x, O x ≠ none → S2 x = none := fun O hOm hO hS x hx' => by
      cases e2 : S2 x with
      | none => rfl
      | some u =>
        have e3 := s2_sub x u e2
        rcases hnew x (by rw [e3]; exact fun z => nomatch z) with z | z | z
        · rw [s2_lent x z (hS x hx')] at e2; cases e2
        · cases e3 : O x with
          | none => exact absurd e3 hx'
          | some u' => rw [hO x u' e3] at z; cases z
        · exact absurd z (none_of x)
    have b1m : ∀ O ∈ Os, ∃ ρ : Res, ρ.r K S1 O ∧ Same O H1 ∧ ∀ a, O a ≠ none → S1 a = none := fun O hO => let ⟨ρ, _, h⟩ := all2_mem b1 hO; ⟨ρ, h⟩
    have b1' : All2 (fun (ρ : Res) O => ρ.r K S2 O ∧ Same O H' ∧ ∀ a, O a ≠ none → S2 a = none) R1 Os := by
      have : ∀ {Rs : List Res} {Us : List Hp}, (∀ O ∈ Us, O ∈ Os) → All2 (fun (ρ : Res) O => ρ.r K S1 O ∧ Same O H1 ∧ ∀ a, O a ≠ none → S1 a = none) Rs Us → All2 (fun (ρ : Res) O => ρ.r K S2 O ∧ Same O H' ∧ ∀ a, O a ≠ none → S2 a = none) Rs Us := by
        intro Rs Us hm h
        induction h with
        | nil => exact .nil
        | cons hh t ih => exact .cons ⟨Res.mono _ e12 hh.1, fun x u e => hfr x u (hh.2.1 x u e) (none_of x), dis _ (hm _ (List.mem_cons_self ..)) hh.2.1 hh.2.2⟩ (ih fun O hO => hm O (List.mem_cons_of_mem _ hO))
      exact this (fun O hO => hO) b1
    have hown' : All2 (fun (ρ : Res) O => ρ.r K S2 O ∧ Same O H' ∧ ∀ a, O a ≠ none → S2 a = none) (Rn i n) Os' := by
      have : ∀ {Rs : List Res} {Us : List Hp}, (∀ ρ ∈ Rs, FlatR ρ) → All2 (fun (ρ : Res) O => ρ.r K S' O ∧ Same O H' ∧ ∀ a, O a ≠ none → S' a = none) Rs Us → All2 (fun (ρ : Res) O => ρ.r K S2 O ∧ Same O H' ∧ ∀ a, O a ≠ none → S2 a = none) Rs Us := by
        intro Rs Us hm h
        induction h with
        | nil => exact .nil
        | cons hh t ih =>
          refine .cons ⟨hm _ (List.mem_cons_self ..) _ _ _ _ but hh.1, hh.2.1, fun x hx' => ?_⟩ (ih fun ρ hρ => hm ρ (List.mem_cons_of_mem _ hρ))
          cases e2 : S2 x with
          | none => rfl
          | some u => have := s2_sub x u e2; rw [hh.2.2 x hx'] at this; cases this
      exact this (hfR n) hown.all
    refine ⟨fun x u h => hsub x u (s2_sub x u h), q1.ext.trans e12, fun x u e n => hfr x u (q1.fr x u e n) (none_of x), fun x hx' => ?_, ⟨Os ++ Os', ⟨b1'.app hown', ?_⟩, fun O hO' x hx' => ?_⟩, slots_mono e12 q1.slots⟩
    · cases e2 : S2 x with
      | none => exact absurd e2 hx'
      | some u =>
        have e3 := s2_sub x u e2
        rcases hnew x (by rw [e3]; exact fun z => nomatch z) with z | z | z
        · by_cases hc : S1 x = none
          · rw [s2_lent x z hc] at e2; cases e2
          · exact q1.new x hc
        · by_cases n : E.A0 x
          · exact .inr (.inr n)
          · cases e0 : E.H0 x with
            | none => exact .inr (.inl rfl)
            | some u => rw [q1.fr x u e0 n] at z; cases z
        · exact absurd z (none_of x)
    · refine List.pairwise_append.mpr ⟨b2, hown.dis, fun O hO1 O' hO2 x hx' => ?_⟩
      cases e2 : O' x with
      | none => rfl
      | some u =>
        rcases hO O' hO2 x (by rw [e2]; exact fun z => nomatch z) with z | z
        · exact absurd z (none_of x)
        · obtain ⟨ρ, hh⟩ := b1m O hO1
          cases e3 : O x with
          | none => exact absurd e3 hx'
          | some u' => rw [hh.2.1 x u' e3] at z; cases z
    · rcases List.mem_append.mp hO' with z | z
      · exact b3 O z x hx'
      · rcases hO O z x hx' with z | z
        · exact absurd z (none_of x)
        · by_cases n : E.A0 x
          · exact .inl n
          · cases e0 : E.H0 x with
            | none => exact .inr rfl
            | some u => rw [q1.fr x u e0 n] at z; cases z
theorem ev_lend1 (F : Fam X P w K mg base A N) {α : Type} {pre : α → Prop} {d1 : α → Sl} {res : α → Sl} {ss : List Sl} {x1 : α} (C : Cal P w K mg base A f ps (sp1 K pre d1 res)) (ha : ArJ X K E Γ R (e :: es) R1 ss) (hl : All2 (LendA R1) ss [d1 x1]) (hpre : pre x1) (hf : Flat (res x1)) (hg : ∀ i, Gl (X i) f := by exact fun _ => rfl) (he : ∀ i, starEach (e :: es) (X i).env = (false, eval e (X i).env) :: starEach es (X i).env := by exact fun _ => rfl) (hpl : ∀ i, (backTo pos (starEach es (X i).env)).any (·.1) = false := by exact fun _ => rfl) (hdb : (f == ("__debug__" : Str)) = false := by decide) :
    EvJ X K E Γ R (.Call (.Name f p') (e :: es) [] pos) R1 (res x1) := by
  have := ev_of_unit (ev_callL (p' := p') F C x1 ha hl hpre (fun _ => hf) (fun _ ρ h => nomatch h) hg he hpl hdb)
  rw [List.append_nil] at this
  exact this
theorem el_lend1 (F : Fam X P w K mg base A N) {α : Type} {pre : α → Prop} {d1 : α → Sl} {res : α → List PyData} {ss : List Sl} {x1 : α} (C : Cal P w K mg base A f ps (spL1 K pre d1 res)) (ha : ArJ X K E Γ R (e :: es) R1 ss) (hl : All2 (LendA R1) ss [d1 x1]) (hpre : pre x1) (hf : flA (res x1) = true) (hg : ∀ i, Gl (X i) f := by exact fun _ => rfl) (he : ∀ i, starEach (e :: es) (X i).env = (false, eval e (X i).env) :: starEach es (X i).env := by exact fun _ => rfl) (hpl : ∀ i, (backTo pos (starEach es (X i).env)).any (·.1) = false := by exact fun _ => rfl) (hdb : (f == ("__debug__" : Str)) = false := by decide) :
    EvL X K E Γ R (.Call (.Name f p') (e :: es) [] pos) R1 (res x1) :=
  ev_callL (p' := p') F C x1 ha hl hpre (fun _ => flat_v) (fun p ρ h => by rw [List.mem_singleton.mp h]; exact flatR_l hf) hg he hpl hdb
theorem ev_lend2 (F : Fam X P w K mg base A N) {α β : Type} {pre : α → β → Prop} {d1 : α → Sl} {d2 : β → Sl} {res : α → β → Sl} {ss : List Sl} {x1 : α} {x2 : β} (C : Cal P w K mg base A f ps (sp2 K pre d1 d2 res)) (ha : ArJ X K E Γ R (e :: es) R1 ss) (hl : All2 (LendA R1) ss [d1 x1, d2 x2]) (hpre : pre x1 x2) (hf : Flat (res x1 x2)) (hg : ∀ i, Gl (X i) f := by exact fun _ => rfl) (he : ∀ i, starEach (e :: es) (X i).env = (false, eval e (X i).env) :: starEach es (X i).env := by exact fun _ => rfl) (hpl : ∀ i, (backTo pos (starEach es (X i).env)).any (·.1) = false := by exact fun _ => rfl) (hdb : (f == ("__debug__" : Str)) = false := by decide) :
    EvJ X K E Γ R (.Call (.Name f p') (e :: es) [] pos) R1 (res x1 x2) := by
  have := ev_of_unit (ev_callL (p' := p') F C (x1, x2) ha hl hpre (fun _ => hf) (fun _ ρ h => nomatch h) hg he hpl hdb)
  rw [List.append_nil] at this
  exact this
theorem el_lend2 (F : Fam X P w K mg base A N) {α β : Type} {pre : α → β → Prop} {d1 : α → Sl} {d2 : β → Sl} {res : α → β → List PyData} {ss : List Sl} {x1 : α} {x2 : β} (C : Cal P w K mg base A f ps (spL2 K pre d1 d2 res)) (ha : ArJ X K E Γ R (e :: es) R1 ss) (hl : All2 (LendA R1) ss [d1 x1, d2 x2]) (hpre : pre x1 x2) (hf : flA (res x1 x2) = true) (hg : ∀ i, Gl (X i) f := by exact fun _ => rfl) (he : ∀ i, starEach (e :: es) (X i).env = (false, eval e (X i).env) :: starEach es (X i).env := by exact fun _ => rfl) (hpl : ∀ i, (backTo pos (starEach es (X i).env)).any (·.1) = false := by exact fun _ => rfl) (hdb : (f == ("__debug__" : Str)) = false := by decide) :
    EvL X K E Γ R (.Call (.Name f p') (e :: es) [] pos) R1 (res x1 x2) :=
  ev_callL (p' := p') F C (x1, x2) ha hl hpre (fun _ => flat_v) (fun p ρ h => by rw [List.mem_singleton.mp h]; exact flatR_l hf) hg he hpl hdb
theorem ev_lend3 (F : Fam X P w K mg base A N) {α β γ : Type} {pre : α → β → γ → Prop} {d1 : α → Sl} {d2 : β → Sl} {d3 : γ → Sl} {res : α → β → γ → Sl} {ss : List Sl} {x1 : α} {x2 : β} {x3 : γ} (C : Cal P w K mg base A f ps (sp3 K pre d1 d2 d3 res)) (ha : ArJ X K E Γ R (e :: es) R1 ss) (hl : All2 (LendA R1) ss [d1 x1, d2 x2, d3 x3]) (hpre : pre x1 x2 x3) (hf : Flat (res x1 x2 x3)) (hg : ∀ i, Gl (X i) f := by exact fun _ => rfl) (he : ∀ i, starEach (e :: es) (X i).env = (false, eval e (X i).env) :: starEach es (X i).env := by exact fun _ => rfl) (hpl : ∀ i, (backTo pos (starEach es (X i).env)).any (·.1) = false := by exact fun _ => rfl) (hdb : (f == ("__debug__" : Str)) = false := by decide) :
    EvJ X K E Γ R (.Call (.Name f p') (e :: es) [] pos) R1 (res x1 x2 x3) := by
  have := ev_of_unit (ev_callL (p' := p') F C (x1, x2, x3) ha hl hpre (fun _ => hf) (fun _ ρ h => nomatch h) hg he hpl hdb)
  rw [List.append_nil] at this
  exact this
theorem el_lend3 (F : Fam X P w K mg base A N) {α β γ : Type} {pre : α → β → γ → Prop} {d1 : α → Sl} {d2 : β → Sl} {d3 : γ → Sl} {res : α → β → γ → List PyData} {ss : List Sl} {x1 : α} {x2 : β} {x3 : γ} (C : Cal P w K mg base A f ps (spL3 K pre d1 d2 d3 res)) (ha : ArJ X K E Γ R (e :: es) R1 ss) (hl : All2 (LendA R1) ss [d1 x1, d2 x2, d3 x3]) (hpre : pre x1 x2 x3) (hf : flA (res x1 x2 x3) = true) (hg : ∀ i, Gl (X i) f := by exact fun _ => rfl) (he : ∀ i, starEach (e :: es) (X i).env = (false, eval e (X i).env) :: starEach es (X i).env := by exact fun _ => rfl) (hpl : ∀ i, (backTo pos (starEach es (X i).env)).any (·.1) = false := by exact fun _ => rfl) (hdb : (f == ("__debug__" : Str)) = false := by decide) :
    EvL X K E Γ R (.Call (.Name f p') (e :: es) [] pos) R1 (res x1 x2 x3) :=
  ev_callL (p' := p') F C (x1, x2, x3) ha hl hpre (fun _ => flat_v) (fun p ρ h => by rw [List.mem_singleton.mp h]; exact flatR_l hf) hg he hpl hdb
theorem ev_lend4 (F : Fam X P w K mg base A N) {α β γ δ : Type} {pre : α → β → γ → δ → Prop} {d1 : α → Sl} {d2 : β → Sl} {d3 : γ → Sl} {d4 : δ → Sl} {res : α → β → γ → δ → Sl} {ss : List Sl} {x1 : α} {x2 : β} {x3 : γ} {x4 : δ} (C : Cal P w K mg base A f ps (sp4 K pre d1 d2 d3 d4 res)) (ha : ArJ X K E Γ R (e :: es) R1 ss) (hl : All2 (LendA R1) ss [d1 x1, d2 x2, d3 x3, d4 x4]) (hpre : pre x1 x2 x3 x4) (hf : Flat (res x1 x2 x3 x4)) (hg : ∀ i, Gl (X i) f := by exact fun _ => rfl) (he : ∀ i, starEach (e :: es) (X i).env = (false, eval e (X i).env) :: starEach es (X i).env := by exact fun _ => rfl) (hpl : ∀ i, (backTo pos (starEach es (X i).env)).any (·.1) = false := by exact fun _ => rfl) (hdb : (f == ("__debug__" : Str)) = false := by decide) :
    EvJ X K E Γ R (.Call (.Name f p') (e :: es) [] pos) R1 (res x1 x2 x3 x4) := by
  have := ev_of_unit (ev_callL (p' := p') F C (x1, x2, x3, x4) ha hl hpre (fun _ => hf) (fun _ ρ h => nomatch h) hg he hpl hdb)
  rw [List.append_nil] at this
  exact this
theorem el_lend4 (F : Fam X P w K mg base A N) {α β γ δ : Type} {pre : α → β → γ → δ → Prop} {d1 : α → Sl} {d2 : β → Sl} {d3 : γ → Sl} {d4 : δ → Sl} {res : α → β → γ → δ → List PyData} {ss : List Sl} {x1 : α} {x2 : β} {x3 : γ} {x4 : δ} (C : Cal P w K mg base A f ps (spL4 K pre d1 d2 d3 d4 res)) (ha : ArJ X K E Γ R (e :: es) R1 ss) (hl : All2 (LendA R1) ss [d1 x1, d2 x2, d3 x3, d4 x4]) (hpre : pre x1 x2 x3 x4) (hf : flA (res x1 x2 x3 x4) = true) (hg : ∀ i, Gl (X i) f := by exact fun _ => rfl) (he : ∀ i, starEach (e :: es) (X i).env = (false, eval e (X i).env) :: starEach es (X i).env := by exact fun _ => rfl) (hpl : ∀ i, (backTo pos (starEach es (X i).env)).any (·.1) = false := by exact fun _ => rfl) (hdb : (f == ("__debug__" : Str)) = false := by decide) :
    EvL X K E Γ R (.Call (.Name f p') (e :: es) [] pos) R1 (res x1 x2 x3 x4) :=
  ev_callL (p' := p') F C (x1, x2, x3, x4) ha hl hpre (fun _ => flat_v) (fun p ρ h => by rw [List.mem_singleton.mp h]; exact flatR_l hf) hg he hpl hdb
theorem ev_lend5 (F : Fam X P w K mg base A N) {α β γ δ ε : Type} {pre : α → β → γ → δ → ε → Prop} {d1 : α → Sl} {d2 : β → Sl} {d3 : γ → Sl} {d4 : δ → Sl} {d5 : ε → Sl} {res : α → β → γ → δ → ε → Sl} {ss : List Sl} {x1 : α} {x2 : β} {x3 : γ} {x4 : δ} {x5 : ε} (C : Cal P w K mg base A f ps (sp5 K pre d1 d2 d3 d4 d5 res)) (ha : ArJ X K E Γ R (e :: es) R1 ss) (hl : All2 (LendA R1) ss [d1 x1, d2 x2, d3 x3, d4 x4, d5 x5]) (hpre : pre x1 x2 x3 x4 x5) (hf : Flat (res x1 x2 x3 x4 x5)) (hg : ∀ i, Gl (X i) f := by exact fun _ => rfl) (he : ∀ i, starEach (e :: es) (X i).env = (false, eval e (X i).env) :: starEach es (X i).env := by exact fun _ => rfl) (hpl : ∀ i, (backTo pos (starEach es (X i).env)).any (·.1) = false := by exact fun _ => rfl) (hdb : (f == ("__debug__" : Str)) = false := by decide) :
    EvJ X K E Γ R (.Call (.Name f p') (e :: es) [] pos) R1 (res x1 x2 x3 x4 x5) := by
  have := ev_of_unit (ev_callL (p' := p') F C (x1, x2, x3, x4, x5) ha hl hpre (fun _ => hf) (fun _ ρ h => nomatch h) hg he hpl hdb)
  rw [List.append_nil] at this
  exact this
end
end SL

/-! chained comparisons; numbers that texts write -/
namespace SL
open PySem PySem.Spec PyProof.Rows L2
section
variable {ι : Type} {X : ι → Cx} {K : PySem.W.Frag} {E : Ent} {B : Hp} {Γ Γ' : Slots} {R R' R1 R2' R3 : List Res} {a b c e o : Expr} {es : List Expr} {pos p' : Pos} {s s1 s2 s3 : Sl}
  {P : Program} {w : World} {mg : Str → Option Value} {base : Heap} {A : Around} {N : List Str} {rest sts : List Stmt} {D : Ends} {S S' H H' : Hp} {σ σ' : L2.St} {f : Str} {ps : List Str} {i j : Int} {x y : Str}
theorem te_chain {op op' : CmpOp} {k j : Bool} (ha : EvJ X K E Γ R a R s1) (hb : EvJ X K E Γ R b R s2) (hc : EvJ X K E Γ R c R s3) (ho : BinR X K E (compareOp op) R s1 s2 (sv (.bl k))) (ho' : BinR X K E (compareOp op') R s2 s3 (sv (.bl j)))
    (hm : lastMarks [op, op'] [b, c] = false := by with_unfolding_all rfl) : TeJ X K E Γ R (.Compare a [op, op'] [b, c] pos) (k && j) := by
  obtain ⟨ta, a1, a2⟩ := ha
  obtain ⟨tb, b1, b2⟩ := hb
  obtain ⟨tc, c1, c2⟩ := hc
  obtain ⟨r, o1, o2⟩ := ho
  obtain ⟨r', o1', o2'⟩ := ho'
  refine ⟨tTest (tChain r r' ta tb tc), fun i => pt_chain (o1 i) (o1' i) (a1 i) (b1 i) (c1 i) hm, fun S σ H Q q k' => ?_⟩
  refine a2 S σ H _ q fun x S1 H1 e1 q1 r1 => b2 S1 σ H1 _ q1 fun y S2 H2 e2 q2 r2 => ?_
  refine o2 Γ S2 σ H2 x y _ q2 (s1.mono e2 r1) r2 fun v S3 H3 e3 q3 r3 => ⟨k, r3, ?_⟩
  cases k with
  | false =>
    rw [if_neg Bool.false_ne_true]
    exact ⟨false, rfl, k' S3 H3 ((e1.trans e2).trans e3) q3⟩
  | true =>
    rw [if_pos rfl]
    refine c2 S3 σ H3 _ q3 fun z S4 H4 e4 q4 r4 => o2' Γ S4 σ H4 y z _ q4 (s2.mono (e3.trans e4) r2) r4 fun v S5 H5 e5 q5 r5 => ⟨j, r5, ?_⟩
    exact k' S5 H5 ((((e1.trans e2).trans e3).trans e4).trans e5) q5
theorem te_is {k k' : Bool} (h : TeJ X K E Γ R e k) (hk : k = k') : TeJ X K E Γ R e k' := hk ▸ h
theorem blk_unpackN {ν : Type} {tg : Expr} {Rn : ν → List Res} {sn : ν → Sl} {up : ν → Unit → Slots → Slots} {us : List Nat} (F : Fam X P w K mg base A N) (he : EvN X K E Γ R e Rn sn) (ht : ∀ n, TgA X K E tg (fun _ : Unit => sn n) (up n) us) (hr : ∀ n, Blk X K E B (up n () Γ) (Rn n) rest D)
    (hs : ∀ i, swapsWithSole [tg] e pos.line (X i).env = pure false := by exact fun _ => rfl) (hw : ∀ i, swappedStores [tg] e (X i).env = pure none := by exact fun _ => rfl) (h1 : ∀ i, (assignEach [tg] (X i).env).map (·.2) = [assign tg (X i).env] := by exact fun _ => rfl) :
    Blk X K E B Γ R (.Assign [tg] e pos :: rest) D := by
  obtain ⟨t, a1, a2⟩ := he
  have ht' := fun n => Classical.choose_spec (ht n)
  have hr' := fun n => Classical.choose_spec (hr n)
  have hg : ∀ i, PG (X i) tg (fun v σ H Q => ∃ n, Classical.choose (ht n) v σ H Q) := fun i => ⟨fun pins s σ H v u Q I r ⟨n, h⟩ => ((ht' n).1 i).run pins s σ H v u Q I r h⟩
  refine ⟨tSeq (tAsg t (fun v σ H Q => ∃ n, Classical.choose (ht n) v σ H Q)) _, fun i => pss_cons (ps_asg (a1 i) (hg i) (hs i) (hw i) (h1 i)) (pss_any fun n => (hr' n).1 i), fun S σ H b q => a2 S σ H _ q fun n v S1 H1 e1 q1 r1 => ⟨n, (ht' n).2 () Γ (Rn n) S1 σ H1 v _ q1 r1 fun σ' q' _ _ => ⟨n, (hr' n).2 S1 σ' H1 (b.trans e1) q'⟩⟩⟩
end
def oV : Option Int → V
  | none => .non
  | some n => .int n
abbrev dO (o : Option Int) : Sl := sv (oV o)
abbrev FIG : Str := "0123456789"
theorem fig_in {c : Nat} (h : c ∈ FIG.cps.toList) : 48 ≤ c ∧ c ≤ 57 ∧ Txt.find FIG ⟨#[c]⟩ = ((c - 48 : Nat) : Int) := by
  have hd : FIG.cps.toList = [48, 49, 50, 51, 52, 53, 54, 55, 56, 57] := by decide +kernel
  rw [hd] at h
  simp only [List.mem_cons, List.not_mem_nil, or_false] at h
  rcases h with h | h | h | h | h | h | h | h | h | h <;> subst h <;> exact ⟨by decide, by decide, by decide +kernel⟩
def valD : List Nat → Int → Int := fun l a => l.foldl (fun acc c => 10 * acc + Txt.find FIG ⟨#[c]⟩) a
theorem valD_is : ∀ (l : List Nat) (n : Nat), (∀ c ∈ l, c ∈ FIG.cps.toList) → valD l n = ((l.foldl (fun acc c => acc * 10 + (c - 48)) n : Nat) : Int)
  | [], n, _ => rfl
  | c :: l, n, h => by
    have h1 := fig_in (h c (List.mem_cons_self ..))
    show valD l (10 * (n : Int) + Txt.find FIG ⟨#[c]⟩) = _
    rw [h1.2.2, show 10 * (n : Int) + ((c - 48 : Nat) : Int) = ((n * 10 + (c - 48) : Nat) : Int) by omega, valD_is l _ fun d hd => h d (List.mem_cons_of_mem _ hd)]
    rfl
theorem int_of_digits {x : Str} (h : ∀ c ∈ x.cps.toList, c ∈ FIG.cps.toList) (h0 : 0 < x.length) (h1 : x.length ≤ 640) : PySem.intText? x = some (valD x.cps.toList 0) := by
  have e := valD_is x.cps.toList 0 h
  rw [PySem.intText_digits (fun c hc => ⟨(fig_in (h c hc)).1, (fig_in (h c hc)).2.1⟩) (fun z => by rw [len_sg] at h0; rw [show sg x = [] from z] at h0; exact absurd h0 (by decide)) (by omega)]
  exact congrArg some e.symm
theorem str_len {n k : Nat} (hk : 0 < k) (h : n < 10 ^ k) : (Str.ofString (toString ((n : Nat) : Int))).length ≤ k := by
  rw [len_sg]
  show (TL.tl _).length ≤ k
  rw [TL.tl_num]
  exact TL.numL_len hk h
end SL

/-! sorted, insert, extend, in lists -/
namespace SL
open PySem PySem.Spec PyProof.Rows L2
/-! sorted(xs) of data -/
theorem each_all2 {xs : List V} {ds : List PyData} {us : List Value} {h : Heap} (D : V → PyData → Prop) (hD : ∀ x d v, D x d → RelV x v → ∃ as, Reads h v d as) (h1 : All2 D xs ds) (h2 : Vals xs us) :
    PySem.W.EachIs (fun v d => ∃ x, RelV x v ∧ D x d) us ds ∧ PySem.W.EachIs (fun v d => ∃ as, Reads h v d as) us ds := by
  induction h1 generalizing us with
  | nil => cases h2; exact ⟨.nil, .nil⟩
  | cons p t ih =>
    cases h2 with
    | cons r rs =>
      obtain ⟨i1, i2⟩ := ih rs
      exact ⟨.cons ⟨_, r, p⟩ i1, .cons (hD _ _ _ p r) i2⟩
theorem each_back {D : V → PyData → Prop} : ∀ {us : List Value} {ds : List PyData}, PySem.W.EachIs (fun v d => ∃ x, RelV x v ∧ D x d) us ds → ∃ xs, Vals xs us ∧ All2 D xs ds
  | _, _, .nil => ⟨[], .nil, .nil⟩
  | _, _, .cons ⟨x, r, p⟩ t => by
    obtain ⟨xs, h1, h2⟩ := each_back t
    exact ⟨x :: xs, .cons r h1, .cons p h2⟩
def rSrt (K : PySem.W.Frag) : List V → Hp → VK → Prop := fun vs H Q => ∃ (a : Addr) (xs : List V) (ds : List PyData) (D : V → PyData → Prop), vs = [.ref a] ∧ SqL K H a xs ∧ All2 D xs ds ∧ (∀ x d, D x d → Dp K H x d) ∧ PySem.W.AllAlike ds ∧ PySem.W.Sortable ds ∧ ds.length ≤ 1000000 ∧ (∀ d ∈ ds, d.depth ≤ 32) ∧
  ∀ ys p, All2 D ys (ds.mergeSort (PySem.W.dataLe false fun d => d)) → H p = none → Q (.ref p) (upd H p (.lst ys))
theorem cr_srt {X : Cx} (hu : X.A.units + 64 < cLine) : CallR X (.builtin "sorted") (rSrt X.K) := by
  intro pins s σ H vs us Q I r h
  obtain ⟨a, xs, ds, D, rfl, hs, hx, hD, hal, hk, hz, hd, q⟩ := h
  obtain ⟨its, rv, hl, hlen⟩ := I.list hs
  obtain ⟨u, rfl, ru⟩ := vals1 r
  obtain rfl : u = Value.ref a := ru
  obtain ⟨e1, e2⟩ := each_all2 (us := its) (h := s.heap) D (fun x d v p rx => Dp.reads I d x v (hD x d p) rx) hx rv
  have hsl : (sizeLine : Nat) = 16777216 := sizeLine_eq
  refine PySem.W.sorted_data (bs := ds) (enc := fun d => d) hl.isList e1 e2 (by rw [List.map_id']; exact hal) (by rw [List.map_id']; exact hk) (by omega) (fun d hd' => by have := hd d hd'; omega) fun out ho he => ?_
  obtain ⟨ys, h1, h2⟩ := each_back he
  obtain ⟨c, hc⟩ := PyProof.Rows.sortedAll_at s.heap its out.toArray
  have hyl : ys.length = xs.length := by
    have g1 := h2.len
    have g2 := hx.len
    have g3 := List.length_mergeSort (le := PySem.W.dataLe false fun d : PyData => d) ds
    omega
  have hfresh : H (s.heap.objs.size + 1) = none := I.hok.fresh (Nat.le_succ _)
  refine ⟨.ref (s.heap.objs.size + 1), upd H (s.heap.objs.size + 1) (.lst ys), I.laid (t' := s.toks) (fun b o e => PyProof.Rows.sortedAll_old e) (Nat.le_succ _) ⟨?_, out, c, h1, hc⟩, rfl, q ys _ h2 hfresh⟩
  rw [hyl]
  exact hlen
section
variable {ι : Type} {X : ι → Cx} {K : PySem.W.Frag} {E : Ent} {B : Hp} {Γ Γ' : Slots} {R R' R1 R2' R3 : List Res} {a b c e o : Expr} {es : List Expr} {pos p' : Pos} {s s1 s2 s3 : Sl}
  {P : Program} {w : World} {mg : Str → Option Value} {base : Heap} {A : Around} {N : List Str} {rest sts : List Stmt} {D : Ends} {S S' H H' : Hp} {σ σ' : L2.St} {f : Str} {ps : List Str} {i j : Int} {x y : Str}
theorem daAll_all2 : ∀ {vs : List V} {ds : List PyData}, DaAll K S vs ds → All2 (fun v d => Da K S v d) vs ds
  | _, _, .nil => .nil
  | _, _, .cons h r => .cons h (daAll_all2 r)
theorem all2_daAll : ∀ {vs : List V} {ds : List PyData}, All2 (fun v d => Da K S v d) vs ds → DaAll K S vs ds
  | _, _, .nil => .nil
  | _, _, .cons h r => .cons h (all2_daAll r)
def srt (ds : List PyData) : List PyData := ds.mergeSort (PySem.W.dataLe false fun d => d)
theorem cl_sorted {k : Nat} (F : Fam X P w K mg base A N) (hr : Room k A) {ds : List PyData} (h : LV K R s1 ds) (hal : PySem.W.AllAlike ds) (hk : PySem.W.Sortable ds) (hz : ds.length ≤ 1000000) (hd : ∀ d ∈ ds, d.depth ≤ 32) : ClN X K E (.builtin "sorted") R [s1] (fun p : Addr => R ++ [rL p (srt ds)]) (fun p => sv (.ref p)) :=
  ⟨rSrt K, fun n => by rw [← F.fK n]; exact cr_srt (by rw [F.fA n]; exact hr.units), fun Γ S σ H vs Q q r k => by
    obtain ⟨v, rfl, r1⟩ := all2_one r
    obtain ⟨p, us, rfl, h1, h2⟩ := h E Γ S σ H v q r1
    exact ⟨p, us, ds, fun v d => Da K S v d, rfl, SqL.of h1, daAll_all2 h2, fun x d hxd => da_dp (da_same q.sub hxd), hal, hk, hz, hd, fun ys l hys hl => k l _ S _ (Same.refl _) (q.mine hl ⟨ys, rfl, all2_daAll hys⟩) rfl⟩⟩
/-! xs.insert(i, v), xs.extend(ys), ones own -/
theorem ev_insert (F : Fam X P w K mg base A N) (k : Nat) {p : Addr} {ds : List PyData} {d : PyData} {apos : Pos} (ho : EvJ X K E Γ R o R (sv (.ref p))) (ha : EvJ X K E Γ R e R (dI i)) (hb : EvJ X K E Γ R b R s2) (hd : ∀ K S v, s2.r K S v → Da K S v d) (hk : R[k]? = some (rL p ds)) (h0 : 0 ≤ i) (h1 : i < 1000000) (hz : ds.length < 10000000)
    (hbase : ∀ i, attributeBase o "insert" (X i).env (eval o (X i).env) = eval o (X i).env := by exact fun _ => rfl)
    (hfew : ∀ i, ((backTo pos (starEach [e, b] (X i).env)).all (fun x => !x.1) && (backToKw pos (keywordEach [] (X i).env)).all (fun x => x.1.isSome) && decide ([e, b].length + ([] : List Keyword).length + (if ([] : List Keyword).isEmpty then 0 else 1) < 30)) = true := by exact fun _ => rfl)
    (hline : (apos.endLine == pos.line) = true := by rfl) (hs : ∀ i, starEach [e, b] (X i).env = (false, eval e (X i).env) :: starEach [b] (X i).env := by exact fun _ => rfl) (hs' : ∀ i, starEach [b] (X i).env = (false, eval b (X i).env) :: starEach [] (X i).env := by exact fun _ => rfl) (hplain : ∀ i, (backTo pos (starEach [b] (X i).env)).any (·.1) = false := by exact fun _ => rfl) :
    EvJ X K E Γ R (.Call (.Attribute o "insert" apos) [e, b] [] pos) (R.set k (rL p (ds.take i.toNat ++ [d] ++ ds.drop i.toNat))) dN := by
  refine ev_mt F PySem.F.plainAttrs_list PySem.F.slot_list_insert PySem.F.type_list_insert ho (ar_cons ha (ar_cons hb ar_nil hs') hs) ⟨_, fun _ => mt_insert, fun Γ S σ H x q r => tyL (lv_o k hk) q r, fun Γ S σ H x xs Q q r1 r2 k' => ?_⟩ hbase hfew hline hs hplain
  obtain ⟨v, z, rfl, r3, r4⟩ : ∃ v z, xs = [v, z] ∧ (dI i).r K S v ∧ s2.r K S z := by
    cases r2 with
    | cons a b =>
      cases b with
      | cons c d =>
        cases d
        exact ⟨_, _, rfl, a, c⟩
  cases (show x = .ref p from r1)
  cases (show v = .int i from r3)
  obtain ⟨vs, c1, c2⟩ := q.cellL k hk
  have hl := daAll_len c2
  have : (sizeLine : Nat) = 16777216 := sizeLine_eq
  exact ⟨p, vs, i, z, rfl, rfl, c1, by omega, h0, by omega, k' _ S _ (Same.refl _) (q.putL k hk (daAll_app (daAll_app (daAll_take _ c2) (.cons (hd K S z r4) .nil)) (daAll_drop _ c2))) rfl⟩
theorem ev_extend (F : Fam X P w K mg base A N) (k : Nat) {p : Addr} {ds es' : List PyData} {apos : Pos} (ho : EvJ X K E Γ R o R (sv (.ref p))) (ha : EvJ X K E Γ R e R s2) (hl : LV K R s2 es') (hk : R[k]? = some (rL p ds)) (hz : ds.length + es'.length < 10000000)
    (hbase : ∀ i, attributeBase o "extend" (X i).env (eval o (X i).env) = eval o (X i).env := by exact fun _ => rfl)
    (hfew : ∀ i, ((backTo pos (starEach [e] (X i).env)).all (fun x => !x.1) && (backToKw pos (keywordEach [] (X i).env)).all (fun x => x.1.isSome) && decide ([e].length + ([] : List Keyword).length + (if ([] : List Keyword).isEmpty then 0 else 1) < 30)) = true := by exact fun _ => rfl)
    (hline : (apos.endLine == pos.line) = true := by rfl) (hs : ∀ i, starEach [e] (X i).env = (false, eval e (X i).env) :: starEach [] (X i).env := by exact fun _ => rfl) (hplain : ∀ i, (backTo pos (starEach [] (X i).env)).any (·.1) = false := by exact fun _ => rfl) :
    EvJ X K E Γ R (.Call (.Attribute o "extend" apos) [e] [] pos) (R.set k (rL p (ds ++ es'))) dN := by
  refine ev_mt F PySem.F.plainAttrs_list PySem.F.slot_list_extend PySem.F.type_list_extend ho (ar_cons ha ar_nil hs) ⟨rExtend, fun _ => mt_extend, fun Γ S σ H x q r => tyL (lv_o k hk) q r, fun Γ S σ H x xs Q q r1 r2 k' => ?_⟩ hbase hfew hline hs hplain
  obtain ⟨v, rfl, r3⟩ := all2_one r2
  cases (show x = .ref p from r1)
  obtain ⟨vs, c1, c2⟩ := q.cellL k hk
  obtain ⟨p2, us, rfl, g1, g2⟩ := hl E Γ S σ H v q r3
  have l1 := daAll_len c2
  have l2 := daAll_len g2
  have : (sizeLine : Nat) = 16777216 := sizeLine_eq
  exact ⟨p, p2, vs, us, rfl, rfl, c1, g1, by omega, k' _ S _ (Same.refl _) (q.putL k hk (daAll_app c2 g2)) rfl⟩
/-! x in a list of texts -/
theorem inV_strs (ns : List Str) : inV (.str x) (ns.map V.str) = decide (x ∈ ns) := by
  unfold inV
  rw [List.any_map, Bool.eq_iff_iff, List.any_eq_true, decide_eq_true_eq]
  constructor
  · rintro ⟨y, hy, h⟩
    have : y = x := eq_of_beq h
    rw [← this]; exact hy
  · intro h
    exact ⟨x, h, beq_self_eq_true x⟩
theorem br_inL (F : Fam X P w K mg base A N) {ds : List PyData} (h : LV K R s2 ds) (ha : ds.all isS = true) : BinR X K E (compareOp .In) R (dS x) s2 (dB (decide (x ∈ ds.map dstr))) :=
  ⟨rIn K false, fun n => by rw [← F.fK n]; exact op_in_seq, fun Γ S σ H u y Q q r1 r2 k => by
    cases (show u = .str x from r1)
    obtain ⟨p, vs, rfl, h1, h2⟩ := h E Γ S σ H y q r2
    rw [da_strs ha h2] at h1
    exact ⟨p, _, rfl, .inl (SqL.of h1), rfl, List.all_eq_true.mpr fun z hz => by obtain ⟨t, _, rfl⟩ := List.mem_map.mp hz; rfl, k _ S H (Same.refl _) q (by rw [← inV_strs]; rfl)⟩⟩
theorem br_ninL (F : Fam X P w K mg base A N) {ds : List PyData} (h : LV K R s2 ds) (ha : ds.all isS = true) : BinR X K E (compareOp .NotIn) R (dS x) s2 (dB (!decide (x ∈ ds.map dstr))) :=
  ⟨rIn K true, fun n => by rw [← F.fK n]; exact op_notIn_seq, fun Γ S σ H u y Q q r1 r2 k => by
    cases (show u = .str x from r1)
    obtain ⟨p, vs, rfl, h1, h2⟩ := h E Γ S σ H y q r2
    rw [da_strs ha h2] at h1
    exact ⟨p, _, rfl, .inl (SqL.of h1), rfl, List.all_eq_true.mpr fun z hz => by obtain ⟨t, _, rfl⟩ := List.mem_map.mp hz; rfl, k _ S H (Same.refl _) q (by rw [← inV_strs]; rfl)⟩⟩
theorem tup_IS {α : Type} {g : α → Int} {h : α → Str} : ∀ (y : α) S v, (sd (.tuple [.int (g y), .str (h y)])).r K S v → (stup [dI (g y), dS (h y)]).r K S v := fun y S v r => tup_sl r
theorem tup_SI {α : Type} {g : α → Str} {h : α → Int} : ∀ (y : α) S v, (sd (.tuple [.str (g y), .int (h y)])).r K S v → (stup [dS (g y), dI (h y)]).r K S v := fun y S v r => tup_sl r
end
/-- pairs of a number and a text as data -/
def mkD (m : Int × Str) : PyData := .tuple [.int m.1, .str m.2]
def svD (m : Str × Int) : PyData := .tuple [.str m.1, .int m.2]
theorem dep_mkD {k : Nat} {m : Int × Str} : dep (k + 1) (mkD m) := dep_tup (depA_cons dep_int (depA_cons dep_str depA_nil))
theorem dep_svD {k : Nat} {m : Str × Int} : dep (k + 1) (svD m) := dep_tup (depA_cons dep_str (depA_cons dep_int depA_nil))
def leM (a b : Int × Str) : Bool := decide (a.1 < b.1) || (decide (a.1 = b.1) && decide (a.2.cps.toList ≤ b.2.cps.toList))
theorem alike_mk (ms : List (Int × Str)) : PySem.W.AllAlike (ms.map mkD) := PySem.W.AllAlike.of fun _ _ => rfl
theorem sortable_mk (ms : List (Int × Str)) : PySem.W.Sortable (ms.map mkD) := PySem.W.Sortable.tuples fun b => ⟨_, _, rfl⟩
theorem dep_mk {ms : List (Int × Str)} : ∀ d ∈ ms.map mkD, d.depth ≤ 32 := fun d hd => by
  obtain ⟨m, _, rfl⟩ := List.mem_map.mp hd
  exact (show dep (31 + 1) (mkD m) from dep_tup (depA_cons dep_int (depA_cons dep_str depA_nil)))
end SL

/-! names, spots, servers, marks: the plain side -/
namespace SL
open PySem PySem.Spec PyProof.Rows L2
abbrev LET : Str := "abcdefghijklmnopqrstuvwxyz"
abbrev ALN : Str := "abcdefghijklmnopqrstuvwxyz0123456789"
def stepS (t : Int) (c : Nat) : Int := (t * 69621 + Txt.find ALN ⟨#[c]⟩ + 1) % 2147483647
def spotA (x : Str) (turn size : Int) : Int := (x.cps.toList.foldl stepS (turn + 1)) * 48271 % 2147483647 % size
def nmOk (x : Str) : Prop := x.length ≤ 9 ∧ ∀ c ∈ x.cps.toList, c ∈ ALN.cps.toList
theorem let_aln : ∀ c ∈ LET.cps.toList, c ∈ ALN.cps.toList := by decide +kernel
theorem let2_aln : ∀ c ∈ (LET ++ LET).cps.toList, c ∈ ALN.cps.toList := by decide +kernel
theorem aln2_aln : ∀ c ∈ (ALN ++ ALN).cps.toList, c ∈ ALN.cps.toList := by decide +kernel
theorem let_len : LET.length = 26 := by decide +kernel
theorem let2_len : (LET ++ LET).length = 52 := by decide +kernel
theorem aln_len : ALN.length = 36 := by decide +kernel
theorem aln2_len : (ALN ++ ALN).length = 72 := by decide +kernel
theorem let_nd : LET.cps.toList.Nodup := by decide +kernel
theorem aln_nd : ALN.cps.toList.Nodup := by decide +kernel
theorem cutS_mem {x : Str} {lo hi : Option Int} {c : Nat} (h : c ∈ (cutS x lo hi).cps.toList) : c ∈ x.cps.toList := by
  have h2 : c ∈ cutD (sg x) lo hi := h
  exact List.mem_of_mem_drop (List.mem_of_mem_take h2)
theorem sign_of {x : Str} {n : Nat} (h : n < x.length) : x.cps.toList.getD n 0 ∈ x.cps.toList := getD_mem (by rw [Array.length_toList]; exact h)
theorem nd_map {α : Type} {f : Nat → α} {n : Nat} (h : ∀ i j, i < n → j < n → f i = f j → i = j) : ((List.range n).map f).Nodup := by
  rw [List.nodup_iff_pairwise_ne, List.pairwise_map]
  refine List.Pairwise.imp_of_mem ?_ (List.nodup_iff_pairwise_ne.mp List.nodup_range)
  intro a b ha hb hne e
  exact hne (h a b (List.mem_range.mp ha) (List.mem_range.mp hb) e)
theorem getD_inj {α : Type} {l : List α} {d : α} (h : l.Nodup) {i j : Nat} (hi : i < l.length) (hj : j < l.length) (e : l.getD i d = l.getD j d) : i = j := by
  rw [List.getD_eq_getElem?_getD, List.getD_eq_getElem?_getD, List.getElem?_eq_getElem hi, List.getElem?_eq_getElem hj] at e
  have e' : l[i] = l[j] := e
  rw [List.nodup_iff_pairwise_ne, List.pairwise_iff_getElem] at h
  rcases Nat.lt_trichotomy i j with q | q | q
  · exact absurd e' (h i j hi hj q)
  · exact q
  · exact absurd e'.symm (h j i hj hi q)
/-! marks -/
def marksOf (sv : List (Str × Int)) (size : Int) : List (Int × Str) := sv.flatMap fun p => (List.range p.2.toNat).map fun (t : Nat) => (spotA p.1 t size, p.1)
def marksA (sv : List (Str × Int)) (size : Int) : List (Int × Str) := (marksOf sv size).mergeSort leM
theorem dataLt_mk (a b : Int × Str) : PySem.W.dataLt (mkD a) (mkD b) = (decide (a.1 < b.1) || (decide (a.1 = b.1) && decide (a.2.cps.toList < b.2.cps.toList))) := by
  unfold mkD
  rw [PySem.W.dataLt_pair rfl rfl, PySem.W.dataLt_int, PySem.W.dataLt_str]
  simp only [PyData.eqv, beq_iff_eq]
  by_cases h1 : a.1 = b.1
  · rw [if_pos h1]
    by_cases h2 : a.2 = b.2
    · rw [if_pos h2, h1, h2]
      simp [List.lt_irrefl]
    · rw [if_neg h2, h1]
      simp
  · rw [if_neg h1]
    simp [h1]
theorem leM_eq (a b : Int × Str) : leM a b = PySem.W.dataLe false (fun d => d) (mkD a) (mkD b) := by
  rw [PySem.W.dataLe_eq]
  show _ = !PySem.W.dataLt (mkD b) (mkD a)
  rw [dataLt_mk]
  unfold leM
  have hl : decide (a.2.cps.toList ≤ b.2.cps.toList) = !decide (b.2.cps.toList < a.2.cps.toList) := by
    rw [Bool.eq_iff_iff]
    simp [List.not_lt]
  rw [hl]
  by_cases h1 : a.1 < b.1
  · have h2 : ¬ b.1 < a.1 := by omega
    have h3 : ¬ b.1 = a.1 := by omega
    simp [h1, h2, h3]
  · by_cases h2 : a.1 = b.1
    · simp [h2]
    · have h3 : b.1 < a.1 := by omega
      have h4 : ¬ b.1 = a.1 := by omega
      simp [h1, h2, h3]
theorem srt_mk (ms : List (Int × Str)) : srt (ms.map mkD) = (ms.mergeSort leM).map mkD := by
  unfold srt
  exact (PySem.W.sort_maps mkD fun a _ b _ => leM_eq a b).symm
theorem leM_trans (a b c : Int × Str) (h1 : leM a b = true) (h2 : leM b c = true) : leM a c = true := by
  unfold leM at *
  simp only [Bool.or_eq_true, Bool.and_eq_true, decide_eq_true_eq] at *
  rcases h1 with h1 | ⟨h1, h1'⟩ <;> rcases h2 with h2 | ⟨h2, h2'⟩
  · left; omega
  · left; omega
  · left; omega
  · right; exact ⟨by omega, List.le_trans h1' h2'⟩
theorem leM_total (a b : Int × Str) : (leM a b || leM b a) = true := by
  unfold leM
  simp only [Bool.or_eq_true, Bool.and_eq_true, decide_eq_true_eq]
  by_cases h : a.1 = b.1
  · rcases List.le_total a.2.cps.toList b.2.cps.toList with h2 | h2
    · exact .inl (.inr ⟨h, h2⟩)
    · exact .inr (.inr ⟨h.symm, h2⟩)
  · rcases Int.lt_or_gt_of_ne h with h2 | h2
    · exact .inl (.inl h2)
    · exact .inr (.inl h2)
theorem leM_anti {a b : Int × Str} (h1 : leM a b = true) (h2 : leM b a = true) : a = b := by
  unfold leM at *
  simp only [Bool.or_eq_true, Bool.and_eq_true, decide_eq_true_eq] at *
  have h3 : a.1 = b.1 := by omega
  rcases h1 with h1 | ⟨_, h1⟩
  · omega
  rcases h2 with h2 | ⟨_, h2⟩
  · omega
  have h4 : a.2.cps.toList = b.2.cps.toList := List.le_antisymm h1 h2
  exact Prod.ext h3 (sg_inj h4)
theorem sort_perm_eq {l m : List (Int × Str)} (h : l.Perm m) : l.mergeSort leM = m.mergeSort leM := by
  refine List.Perm.eq_of_pairwise (le := fun a b => leM a b = true) (fun a b _ _ h1 h2 => leM_anti h1 h2) (List.pairwise_mergeSort leM_trans leM_total l) (List.pairwise_mergeSort leM_trans leM_total m) ?_
  exact ((List.mergeSort_perm l leM).trans h).trans (List.mergeSort_perm m leM).symm
/-! rows -/
def addN (acc : List Str) (n : Str) : List Str := if n ∈ acc then acc else acc ++ [n]
def metA (ns : List Str) : List Str := ns.foldl addN []
def ringA (ms : List (Int × Str)) (spot : Int) : List (Int × Str) := (ms.filter fun m => decide (m.1 ≥ spot)) ++ ms.filter fun m => decide (m.1 < spot)
def rowA (ms : List (Int × Str)) (spot : Int) : List Str := metA ((ringA ms spot).map (·.2))
theorem metA_app (ns : List Str) (n : Str) : metA (ns ++ [n]) = addN (metA ns) n := by
  unfold metA
  rw [List.foldl_append]
  rfl
theorem metA_nodup (ns : List Str) : (metA ns).Nodup := by
  have : ∀ (ns acc : List Str), acc.Nodup → (ns.foldl addN acc).Nodup := by
    intro ns
    induction ns with
    | nil => exact fun _ h => h
    | cons n ns ih =>
      intro acc h
      refine ih _ ?_
      unfold addN
      split
      · exact h
      · rename_i hn
        exact List.nodup_append.mpr ⟨h, List.nodup_cons.mpr ⟨by simp, List.nodup_nil⟩, fun a ha b hb e => hn (by rw [← List.mem_singleton.mp hb, ← e]; exact ha)⟩
  exact this ns [] List.nodup_nil
theorem metA_len (ns : List Str) : (metA ns).length ≤ ns.length := by
  have : ∀ (ns acc : List Str), (ns.foldl addN acc).length ≤ acc.length + ns.length := by
    intro ns
    induction ns with
    | nil => intro acc; simp
    | cons n ns ih =>
      intro acc
      have h1 := ih (addN acc n)
      have h2 : (addN acc n).length ≤ acc.length + 1 := by unfold addN; split <;> simp
      simp only [List.foldl_cons, List.length_cons]
      omega
  have := this ns []
  simpa [metA] using this
theorem mem_metA {n : Str} (ns : List Str) : n ∈ metA ns ↔ n ∈ ns := by
  have : ∀ (ns acc : List Str), n ∈ ns.foldl addN acc ↔ n ∈ acc ∨ n ∈ ns := by
    intro ns
    induction ns with
    | nil => intro acc; simp
    | cons m ns ih =>
      intro acc
      rw [List.foldl_cons, ih]
      unfold addN
      split
      · rename_i hm
        constructor
        · rintro (h | h)
          · exact .inl h
          · exact .inr (List.mem_cons_of_mem _ h)
        · rintro (h | h)
          · exact .inl h
          · rcases List.mem_cons.mp h with e | h
            · exact .inl (e ▸ hm)
            · exact .inr h
      · rw [List.mem_append, List.mem_singleton, List.mem_cons]
        constructor
        · rintro ((h | h) | h)
          · exact .inl h
          · exact .inr (.inl h)
          · exact .inr (.inr h)
        · rintro (h | h | h)
          · exact .inl (.inl h)
          · exact .inl (.inr h)
          · exact .inr h
  have := this ns []
  simpa [metA] using this
/-- a dict of names all alike -/
def allT (ns : List Str) (c : Sl) : List (Str × Sl) := ns.map fun n => (n, c)
theorem lk_allT (ns : List Str) (c : Sl) (x : Str) : lk (allT ns c) x = if x ∈ ns then some c else none := by
  induction ns with
  | nil => rfl
  | cons n ns ih =>
    show lk ((n, c) :: allT ns c) x = _
    by_cases h : n = x
    · rw [lk_pos h, if_pos (by rw [h]; exact List.mem_cons_self ..)]
    · rw [lk_neg h, ih]
      simp [show ¬ x = n from fun e => h e.symm]
theorem pt_allT (ns : List Str) (c : Sl) (x : Str) : pt (allT ns c) x c = allT (addN ns x) c := by
  unfold addN
  by_cases h : x ∈ ns
  · rw [if_pos h]
    unfold pt
    rw [any_lk, lk_allT, if_pos h, if_pos (show (some c).isSome = true from rfl)]
    unfold allT
    rw [List.map_map]
    apply List.map_congr_left
    intro a _
    simp
  · rw [if_neg h, pt_new (by rw [lk_allT, if_neg h])]
    simp [allT]
theorem allT_keys (ns : List Str) (c : Sl) : ((allT ns c).map fun a => PyData.str a.1) = ns.map .str := by
  unfold allT
  rw [List.map_map]
  rfl
theorem sl_mk {ms : List (Int × Str)} : (ms.map mkD).map sl = ms.map fun m => sd (.tuple [.int m.1, .str m.2]) := by
  rw [List.map_map]
  rfl
theorem sl_sv {ms : List (Str × Int)} : (ms.map svD).map sl = ms.map fun m => sd (.tuple [.str m.1, .int m.2]) := by
  rw [List.map_map]
  rfl
end SL

/-! rows and marks without one -/
namespace SL
open PySem PySem.Spec PyProof.Rows L2
def svOk (sv : List (Str × Int)) : Prop := ∀ p ∈ sv, nmOk p.1 ∧ 1 ≤ p.2 ∧ p.2 ≤ 20
theorem marksOf_len {sv : List (Str × Int)} {size : Int} (h : svOk sv) : (marksOf sv size).length ≤ 20 * sv.length := by
  unfold marksOf
  induction sv with
  | nil => simp
  | cons p sv ih =>
    have h1 := ih fun q hq => h q (List.mem_cons_of_mem _ hq)
    have h2 := h p (List.mem_cons_self ..)
    simp only [List.flatMap_cons, List.length_append, List.length_map, List.length_range, List.length_cons]
    omega
theorem marksA_len {sv : List (Str × Int)} {size : Int} (h : svOk sv) : (marksA sv size).length ≤ 20 * sv.length := by
  unfold marksA
  rw [List.length_mergeSort]
  exact marksOf_len h
theorem marksOf_app (sv : List (Str × Int)) (p : Str × Int) (size : Int) : marksOf (sv ++ [p]) size = marksOf sv size ++ (List.range p.2.toNat).map fun (t : Nat) => (spotA p.1 t size, p.1) := by
  unfold marksOf
  simp
theorem marksOf_filter (sv : List (Str × Int)) (size : Int) (q : Str → Bool) : (marksOf sv size).filter (fun m => q m.2) = marksOf (sv.filter fun p => q p.1) size := by
  unfold marksOf
  induction sv with
  | nil => rfl
  | cons p sv ih =>
    rw [List.flatMap_cons, List.filter_append, ih]
    have h0 : (List.filter (fun m : Int × Str => q m.2) ((List.range p.2.toNat).map fun (t : Nat) => (spotA p.1 t size, p.1))) = if q p.1 = true then (List.range p.2.toNat).map fun (t : Nat) => (spotA p.1 t size, p.1) else [] := by
      split
      · rename_i h
        refine List.filter_eq_self.mpr fun m hm => ?_
        obtain ⟨t, _, rfl⟩ := List.mem_map.mp hm
        exact h
      · rename_i h
        refine List.filter_eq_nil_iff.mpr fun m hm => ?_
        obtain ⟨t, _, rfl⟩ := List.mem_map.mp hm
        exact h
    rw [h0]
    by_cases h : q p.1 = true
    · have h1 : List.filter (fun p : Str × Int => q p.1) (p :: sv) = p :: List.filter (fun p : Str × Int => q p.1) sv := List.filter_cons_of_pos h
      rw [if_pos h, h1, List.flatMap_cons]
    · have h1 : List.filter (fun p : Str × Int => q p.1) (p :: sv) = List.filter (fun p : Str × Int => q p.1) sv := List.filter_cons_of_neg h
      rw [if_neg h, h1, List.nil_append]
theorem sort_filter (l : List (Int × Str)) (q : Int × Str → Bool) : (l.mergeSort leM).filter q = (l.filter q).mergeSort leM := by
  refine List.Perm.eq_of_pairwise (le := fun a b => leM a b = true) (fun a b _ _ h1 h2 => leM_anti h1 h2) ((List.pairwise_mergeSort leM_trans leM_total l).filter q) (List.pairwise_mergeSort leM_trans leM_total _) ?_
  exact ((List.mergeSort_perm l leM).filter q).trans (List.mergeSort_perm _ leM).symm
theorem marksA_filter (sv : List (Str × Int)) (size : Int) (q : Str → Bool) : (marksA sv size).filter (fun m => q m.2) = marksA (sv.filter fun p => q p.1) size := by
  unfold marksA
  rw [sort_filter, marksOf_filter]
theorem metA_filter (q : Str → Bool) (ns : List Str) : (metA ns).filter q = metA (ns.filter q) := by
  have : ∀ (ns acc : List Str), (ns.foldl addN acc).filter q = (ns.filter q).foldl addN (acc.filter q) := by
    intro ns
    induction ns with
    | nil => intro acc; rfl
    | cons n ns ih =>
      intro acc
      rw [List.foldl_cons, ih]
      cases h : q n with
      | true =>
        rw [List.filter_cons_of_pos h, List.foldl_cons]
        congr 1
        unfold addN
        by_cases hn : n ∈ acc
        · rw [if_pos hn, if_pos (List.mem_filter.mpr ⟨hn, h⟩)]
        · rw [if_neg hn, if_neg (fun z => hn (List.mem_filter.mp z).1), List.filter_append, List.filter_cons_of_pos h]
          rfl
      | false =>
        rw [List.filter_cons_of_neg (by rw [h]; exact Bool.false_ne_true)]
        congr 1
        unfold addN
        split
        · rfl
        · rw [List.filter_append, List.filter_cons_of_neg (by rw [h]; exact Bool.false_ne_true)]
          simp
  exact this ns []
theorem ringA_filter (q : Str → Bool) (ms : List (Int × Str)) (spot : Int) : (ringA ms spot).filter (fun m => q m.2) = ringA (ms.filter fun m => q m.2) spot := by
  unfold ringA
  rw [List.filter_append, List.filter_filter, List.filter_filter, List.filter_filter, List.filter_filter]
  congr 1 <;> (apply List.filter_congr; intro m _; exact Bool.and_comm _ _)
theorem rowA_filter (q : Str → Bool) (ms : List (Int × Str)) (spot : Int) : (rowA ms spot).filter q = rowA (ms.filter fun m => q m.2) spot := by
  unfold rowA
  rw [metA_filter, ← ringA_filter, List.filter_map]
  rfl
/-- the row of all but the marks of some -/
theorem row_filter (q : Str → Bool) (sv : List (Str × Int)) (size spot : Int) : (rowA (marksA sv size) spot).filter q = rowA (marksA (sv.filter fun p => q p.1) size) spot := by
  rw [rowA_filter, marksA_filter]
theorem mem_rowA {n : Str} {ms : List (Int × Str)} {spot : Int} : n ∈ rowA ms spot ↔ n ∈ ms.map (·.2) := by
  unfold rowA ringA
  rw [mem_metA, List.map_append, List.mem_append]
  simp only [List.mem_map, List.mem_filter, decide_eq_true_eq]
  constructor
  · rintro (⟨m, ⟨h, _⟩, e⟩ | ⟨m, ⟨h, _⟩, e⟩) <;> exact ⟨m, h, e⟩
  · rintro ⟨m, h, e⟩
    by_cases hm : m.1 ≥ spot
    · exact .inl ⟨m, ⟨h, hm⟩, e⟩
    · exact .inr ⟨m, ⟨h, by omega⟩, e⟩
theorem mem_marksA {n : Str} {sv : List (Str × Int)} {size : Int} (hs : svOk sv) : n ∈ (marksA sv size).map (·.2) ↔ n ∈ sv.map (·.1) := by
  unfold marksA
  rw [((List.mergeSort_perm (marksOf sv size) leM).map (·.2)).mem_iff]
  unfold marksOf
  simp only [List.mem_map, List.mem_flatMap, List.mem_range]
  constructor
  · rintro ⟨m, ⟨p, hp, t, _, e1⟩, e2⟩
    subst e1
    exact ⟨p, hp, e2⟩
  · rintro ⟨p, hp, e⟩
    have h := hs p hp
    exact ⟨_, ⟨p, hp, 0, by omega, rfl⟩, e⟩
theorem rowA_len {ms : List (Int × Str)} {spot : Int} : (rowA ms spot).length ≤ 2 * ms.length := by
  have h1 := metA_len ((ringA ms spot).map (·.2))
  have h2 := List.length_filter_le (fun m : Int × Str => decide (m.1 ≥ spot)) ms
  have h3 := List.length_filter_le (fun m : Int × Str => decide (m.1 < spot)) ms
  rw [List.length_map] at h1
  unfold ringA at h1
  rw [List.length_append] at h1
  show (metA _).length ≤ _
  unfold ringA
  omega
theorem perm_of_nodup {l m : List Str} (hl : l.Nodup) (hm : m.Nodup) (h : ∀ x, x ∈ l ↔ x ∈ m) : l.Perm m := by
  induction l generalizing m with
  | nil =>
    cases m with
    | nil => exact List.Perm.refl _
    | cons y m => exact absurd ((h y).mpr (List.mem_cons_self ..)) (by simp)
  | cons x l ih =>
    have hx : x ∈ m := (h x).mp (List.mem_cons_self ..)
    have hl2 := List.nodup_cons.mp hl
    have hp : m.Perm (x :: m.erase x) := List.perm_cons_erase hx
    have hm2 := List.nodup_cons.mp (hp.nodup hm)
    refine (List.Perm.cons x (ih hl2.2 hm2.2 fun y => ?_)).trans hp.symm
    have h1 := h y
    have h2 := hp.mem_iff (a := y)
    simp only [List.mem_cons] at h1 h2
    constructor
    · intro hy
      have h3 := h2.mp (h1.mp (.inr hy))
      rcases h3 with h3 | h3
      · subst h3; exact absurd hy hl2.1
      · exact h3
    · intro hy
      have h3 := h1.mpr (h2.mpr (.inr hy))
      rcases h3 with h3 | h3
      · subst h3; exact absurd hy hm2.1
      · exact h3
/-! texts sorted -/
def leT (a b : Str) : Bool := decide (a.cps.toList ≤ b.cps.toList)
theorem alike_str (ns : List Str) : PySem.W.AllAlike (ns.map PyData.str) := PySem.W.AllAlike.of fun _ _ => rfl
theorem sortable_str (ns : List Str) : PySem.W.Sortable (ns.map PyData.str) := PySem.W.Sortable.others fun b => ⟨(fun h => by cases h), fun _ h => by cases h⟩
theorem dep_strs {ns : List Str} : ∀ d ∈ ns.map PyData.str, d.depth ≤ 32 := fun d hd => by
  obtain ⟨m, _, rfl⟩ := List.mem_map.mp hd
  exact Nat.zero_le _
theorem srt_strs (ns : List Str) : srt (ns.map .str) = (ns.mergeSort leT).map .str := by
  unfold srt
  refine (PySem.W.sort_maps PyData.str fun a _ b _ => ?_).symm
  have := congrFun (congrFun (PySem.W.dataLe_str (β := Str) fun d => d) a) b
  exact this.symm
theorem sortT_perm {l m : List Str} (h : l.Perm m) : l.mergeSort leT = m.mergeSort leT := by
  have tr : ∀ a b c : Str, leT a b = true → leT b c = true → leT a c = true := fun a b c h1 h2 => by
    unfold leT at *
    exact decide_eq_true (List.le_trans (of_decide_eq_true h1) (of_decide_eq_true h2))
  have to : ∀ a b : Str, (leT a b || leT b a) = true := fun a b => by
    unfold leT
    rcases List.le_total a.cps.toList b.cps.toList with h | h <;> simp [h]
  refine List.Perm.eq_of_pairwise (le := fun a b => leT a b = true) (fun a b _ _ h1 h2 => sg_inj (List.le_antisymm (of_decide_eq_true h1) (of_decide_eq_true h2))) (List.pairwise_mergeSort tr to l) (List.pairwise_mergeSort tr to m) ?_
  exact ((List.mergeSort_perm l leT).trans h).trans (List.mergeSort_perm m leT).symm
/-! a name that is not there -/
def spares : List Str := ["zz9", "zz8", "zz7", "zz6", "zz5", "zz4", "zz3", "zz2", "zz1"]
def spareA (ns : List Str) : Str := (spares.filter fun n => !decide (n ∈ ns)).getD 0 Str.empty
theorem len_sub {l m : List Str} (hl : l.Nodup) (h : ∀ x ∈ l, x ∈ m) : l.length ≤ m.length := by
  induction l generalizing m with
  | nil => simp
  | cons x l ih =>
    have hx := h x (List.mem_cons_self ..)
    have hl2 := List.nodup_cons.mp hl
    have hp : m.Perm (x :: m.erase x) := List.perm_cons_erase hx
    have h1 := ih (m := m.erase x) hl2.2 fun y hy => by
      have h3 := hp.mem_iff.mp (h y (List.mem_cons_of_mem _ hy))
      rcases List.mem_cons.mp h3 with h3 | h3
      · subst h3; exact absurd hy hl2.1
      · exact h3
    have h2 := hp.length_eq
    simp only [List.length_cons] at h2 ⊢
    omega
theorem spare_some {ns : List Str} (h : ns.length ≤ 8) : 0 < (spares.filter fun n => !decide (n ∈ ns)).length := by
  by_cases h0 : (spares.filter fun n => !decide (n ∈ ns)) = []
  · exfalso
    have h1 : ∀ x ∈ spares, x ∈ ns := fun x hx => by
      have := List.filter_eq_nil_iff.mp h0 x hx
      simpa using this
    have h2 := len_sub (l := spares) (by decide +kernel) h1
    have h3 : spares.length = 9 := by decide +kernel
    omega
  · exact List.length_pos_iff.mpr h0
theorem spare_in {ns : List Str} (h : ns.length ≤ 8) : spareA ns ∈ spares ∧ spareA ns ∉ ns := by
  have h1 := getD_mem (d := Str.empty) (spare_some h)
  have h2 := List.mem_filter.mp h1
  exact ⟨h2.1, of_decide_eq_false (by rw [← Bool.not_eq_true']; exact h2.2)⟩
theorem spares_ok : ∀ x ∈ spares, nmOk x := by unfold nmOk; decide +kernel
section
variable {ι : Type} {X : ι → Cx} {K : PySem.W.Frag} {E : Ent} {Γ : Slots} {R R1 : List Res} {e : Expr}
/-- a text of which nothing more is said -/
theorem ev_some {x : Str} (h : EvJ X K E Γ R e R1 (dS x)) : EvN X K E Γ R e (fun _ : {_y : Str // True} => R1) (fun n => dS n.1) := let ⟨t, h1, h2⟩ := h; ⟨t, h1, fun S σ H Q q k => h2 S σ H Q q (k ⟨x, trivial⟩)⟩
end
end SL

/-! servers of six fields -/
namespace SL
open PySem PySem.Spec PyProof.Rows L2
section
variable {ι : Type} {X : ι → Cx} {K : PySem.W.Frag} {E : Ent} {B : Hp} {Γ Γ' : Slots} {R R' R1 R2' R3 : List Res} {a b c e o : Expr} {es : List Expr} {pos p' : Pos} {s s1 s2 s3 : Sl}
  {P : Program} {w : World} {mg : Str → Option Value} {base : Heap} {A : Around} {N : List Str} {rest sts : List Stmt} {D : Ends} {S S' H H' : Hp} {σ σ' : L2.St} {f : Str} {ps : List Str} {i j : Int} {x y : Str}
/-- xs.clear(), xs one's own -/
theorem ev_clear (F : Fam X P w K mg base A N) (k : Nat) {p : Addr} {ds : List PyData} {apos : Pos} (ho : EvJ X K E Γ R o R (sv (.ref p))) (hk : R[k]? = some (rL p ds))
    (hbase : ∀ i, attributeBase o "clear" (X i).env (eval o (X i).env) = eval o (X i).env := by exact fun _ => rfl)
    (hline : (apos.endLine == pos.line) = true := by rfl) :
    EvJ X K E Γ R (.Call (.Attribute o "clear" apos) [] [] pos) (R.set k (rL p [])) dN := by
  refine ev_mt0 F PySem.F.plainAttrs_list PySem.F.slot_list_clear PySem.F.type_list_clear ho ⟨rClear, fun _ => mt_clear, fun Γ S σ H x q r => tyL (lv_o k hk) q r, fun Γ S σ H x xs Q q r1 r2 k' => ?_⟩ hbase hline
  cases r2
  cases (show x = .ref p from r1)
  obtain ⟨vs, c1, c2⟩ := q.cellL k hk
  exact ⟨p, vs, rfl, rfl, c1, k' _ S _ (Same.refl _) (q.putL k hk .nil) rfl⟩
/-- t[lo:hi] of a tuple of data -/
theorem ev_sliceT {lo hi : Option Expr} {ol oh : Option Int} {p2 : Pos} (F : Fam X P w K mg base A N) {ds : List PyData} (he : EvJ X K E Γ R e R s1) (ht : TV K R s1 ds) (h1 : PoJ X K E Γ R lo ol) (h2 : PoJ X K E Γ R hi oh) : EvJ X K E Γ R (.Subscript e (.Slice lo hi none p2) pos) R (sd (.tuple (cutD ds ol oh))) := by
  obtain ⟨t, a1, a2⟩ := he
  obtain ⟨tl, b1, b2⟩ := h1
  obtain ⟨th, c1, c2⟩ := h2
  refine ⟨tSl (rSlA K) t tl th, fun n => pe_slice (by rw [← F.fK n]; exact sl_tupA) (a1 n) (b1 n) (c1 n), fun S σ H Q q k => a2 S σ H _ q fun v S1 H1 e1 q1 r1 => b2 S1 σ H1 _ q1 fun S2 H2 e2 q2 => c2 S2 σ H2 _ q2 fun S3 H3 e3 q3 => ?_⟩
  obtain ⟨p, vs, rfl, g1, g2⟩ := ht E Γ S3 σ H3 v q3 (s1.mono (e2.trans e3) r1)
  have hl := daAll_len g2
  refine ⟨p, vs, rfl, same_t q3.sub g1, fun hw => k _ S3 _ ((e1.trans e2).trans e3) q3 ?_, fun _ l hl' => k (.ref l) (upd S3 l (.tup (cutV vs ol oh))) _ (((e1.trans e2).trans e3).trans (same_new (q3.free hl'))) (q3.grow hl') (.tup (SqT.of upd_same) (daAll_cut ol oh (daAll_same (same_new (q3.free hl')) g2)))⟩
  have : cutD ds ol oh = ds := by
    unfold cutD
    rw [← hl, hw.1, hw.2, List.drop_zero, Nat.sub_zero, hl, List.take_length]
  rw [this]
  exact .tup g1 g2
theorem br_catT (F : Fam X P w K mg base A N) {ds es' : List PyData} (h1 : TV K R s1 ds) (h2 : TV K R s2 es') (hd : ds ≠ []) (hz : ds.length + es'.length ≤ 1000) : BinR X K E (binaryOp .Add) R s1 s2 (sd (.tuple (ds ++ es'))) :=
  ⟨rCatT K, fun n => by rw [← F.fK n]; exact op_catT, fun Γ S σ H x y Q q r1 r2 k => by
    obtain ⟨p, vs, rfl, g1, g2⟩ := h1 E Γ S σ H x q r1
    obtain ⟨p2, us, rfl, g3, g4⟩ := h2 E Γ S σ H y q r2
    have l1 := daAll_len g2
    have l2 := daAll_len g4
    have : (sizeLine : Nat) = 16777216 := sizeLine_eq
    refine ⟨p, p2, vs, us, rfl, rfl, same_t q.sub g1, same_t q.sub g3, fun e => hd (by rw [e] at l1; exact List.length_eq_zero_iff.mp l1.symm), by omega, fun e => k _ S _ (Same.refl _) q ?_, fun _ l hl => k (.ref l) (upd S l (.tup (vs ++ us))) _ (same_new (q.free hl)) (q.grow hl) (.tup (SqT.of upd_same) (daAll_app (daAll_same (same_new (q.free hl)) g2) (daAll_same (same_new (q.free hl)) g4)))⟩
    have : es' = [] := by rw [e] at l2; exact List.length_eq_zero_iff.mp l2.symm
    rw [this, List.append_nil]
    exact .tup g1 g2⟩
end
/-! a server: name, zone, weight, well, drains, held -/
abbrev Sx := Str × Str × Int × Bool × Bool × Int
def wdA (b : Bool) : Str := if b then "well" else "ill"
theorem wdA_eq (b : Bool) : decide (wdA b = ("well" : Str)) = b := by cases b <;> decide +kernel
theorem wdA_eq' (b : Bool) : decide (wdA b = ("ill" : Str)) = !b := by cases b <;> decide +kernel
abbrev sxD (p : Sx) : PyData := .tuple [.str p.1, .str p.2.1, .int p.2.2.1, .str (wdA p.2.2.2.1), .bool p.2.2.2.2.1, .int p.2.2.2.2.2]
theorem sl_sx (xs : List Sx) : (xs.map sxD).map sl = xs.map fun p => sd (sxD p) := by rw [List.map_map]; rfl
def liveA (p : Sx) : Bool := p.2.2.2.1 && !p.2.2.2.2.1
def capA (many weight whole extra : Int) : Int := (many * weight * (100 + extra) + 100 * whole - 1) / (100 * whole)
def manyA (xs : List Sx) : Int := ((xs.filter liveA).map fun p => p.2.2.2.2.2).sum + 1
def wholeA (xs : List Sx) : Int := ((xs.filter liveA).map fun p => p.2.2.1).sum
def freeA (xs : List Sx) (extra : Int) : List Sx := (xs.filter liveA).filter fun p => decide (p.2.2.2.2.2 < capA (manyA xs) p.2.2.1 (wholeA xs) extra)
def sxOk (xs : List Sx) : Prop := ∀ p ∈ xs, nmOk p.1 ∧ p.2.1.length ≤ 9 ∧ 1 ≤ p.2.2.1 ∧ p.2.2.1 ≤ 20 ∧ 0 ≤ p.2.2.2.2.2
theorem freeA_len {xs : List Sx} {extra : Int} : (freeA xs extra).length ≤ xs.length := Nat.le_trans (List.length_filter_le _ _) (List.length_filter_le _ _)
theorem sum_bd {l : List Int} (h : ∀ x ∈ l, 1 ≤ x ∧ x ≤ 20) : (l.length : Int) ≤ l.sum ∧ l.sum ≤ 20 * l.length := by
  induction l with
  | nil => exact ⟨Int.le_refl _, Int.le_refl _⟩
  | cons x l ih =>
    have h1 := ih fun y hy => h y (List.mem_cons_of_mem _ hy)
    have h2 := h x (List.mem_cons_self ..)
    rw [List.sum_cons, List.length_cons]
    omega
theorem sum_nn {l : List Int} (h : ∀ x ∈ l, 0 ≤ x) : 0 ≤ l.sum := by
  induction l with
  | nil => exact Int.le_refl _
  | cons x l ih =>
    have h1 := ih fun y hy => h y (List.mem_cons_of_mem _ hy)
    have h2 := h x (List.mem_cons_self ..)
    rw [List.sum_cons]
    omega
theorem whole_ok {xs : List Sx} {p : Sx} (h : sxOk xs) (hl : xs.length ≤ 100) (hp : p ∈ xs.filter liveA) : 0 < wholeA xs ∧ wholeA xs ≤ 1000000000 := by
  have h1 := sum_bd (l := (xs.filter liveA).map fun p => p.2.2.1) fun z hz => by
    obtain ⟨q, hq, rfl⟩ := List.mem_map.mp hz
    have := h q ((List.mem_filter.mp hq).1)
    exact ⟨this.2.2.1, this.2.2.2.1⟩
  rw [List.length_map] at h1
  have h2 : (xs.filter liveA).length ≤ 100 := Nat.le_trans (List.length_filter_le _ _) hl
  have h3 : 0 < (xs.filter liveA).length := List.length_pos_of_mem hp
  unfold wholeA
  omega
theorem many_ok {xs : List Sx} (h : sxOk xs) : 1 ≤ manyA xs := by
  have h1 := sum_nn (l := (xs.filter liveA).map fun p => p.2.2.2.2.2) fun z hz => by
    obtain ⟨q, hq, rfl⟩ := List.mem_map.mp hz
    exact (h q ((List.mem_filter.mp hq).1)).2.2.2.2
  unfold manyA
  omega
theorem lt_cap {held many weight whole extra : Int} (h : 0 < whole) : decide (held * 100 * whole < many * weight * (100 + extra)) = decide (held < capA many weight whole extra) := by
  unfold capA
  generalize many * weight * (100 + extra) = t
  rw [Int.mul_assoc]
  have hb : 0 < 100 * whole := by omega
  generalize 100 * whole = b at hb ⊢
  have e : held < (t + b - 1) / b ↔ (held + 1) * b ≤ t + b - 1 := by rw [Int.lt_iff_add_one_le, Int.le_ediv_iff_mul_le hb]
  rw [Int.add_mul, Int.one_mul] at e
  refine decide_eq_decide.mpr ?_
  rw [e]
  omega
end SL

/-! bools in lists; free ones of some -/
namespace SL
open PySem PySem.Spec PyProof.Rows L2
section
variable {ι : Type} {X : ι → Cx} {K : PySem.W.Frag} {E : Ent} {B : Hp} {Γ Γ' : Slots} {R R' R1 R2' R3 : List Res} {a b c e o : Expr} {es : List Expr} {pos p' : Pos} {s s1 s2 s3 : Sl}
  {P : Program} {w : World} {mg : Str → Option Value} {base : Heap} {A : Around} {N : List Str} {rest sts : List Stmt} {D : Ends} {S S' H H' : Hp} {σ σ' : L2.St} {f : Str} {ps : List Str} {i j : Int} {x y : Bool}
theorem inV_bools (ns : List Bool) : inV (.bl x) (ns.map V.bl) = decide (x ∈ ns) := by
  unfold inV
  rw [List.any_map, Bool.eq_iff_iff, List.any_eq_true, decide_eq_true_eq]
  constructor
  · rintro ⟨y, hy, h⟩
    have : y = x := by
      have h2 : eqV (.bl y) (.bl x) = true := h
      cases x <;> cases y <;> first | rfl | (exact absurd h2 (by decide))
    rw [← this]; exact hy
  · intro h
    exact ⟨x, h, by cases x <;> decide⟩
theorem br_inB (F : Fam X P w K mg base A N) {ds : List PyData} (h : LV K R s2 ds) (ha : ds.all isB = true) : BinR X K E (compareOp .In) R (dB x) s2 (dB (decide (x ∈ ds.map dbool))) :=
  ⟨rIn K false, fun n => by rw [← F.fK n]; exact op_in_seq, fun Γ S σ H u y Q q r1 r2 k => by
    cases (show u = .bl x from r1)
    obtain ⟨p, vs, rfl, h1, h2⟩ := h E Γ S σ H y q r2
    rw [da_bools ha h2] at h1
    exact ⟨p, _, rfl, .inl (SqL.of h1), rfl, List.all_eq_true.mpr fun z hz => by obtain ⟨t, _, rfl⟩ := List.mem_map.mp hz; rfl, k _ S H (Same.refl _) q (by rw [← inV_bools]; rfl)⟩⟩
theorem br_ninB (F : Fam X P w K mg base A N) {ds : List PyData} (h : LV K R s2 ds) (ha : ds.all isB = true) : BinR X K E (compareOp .NotIn) R (dB x) s2 (dB (!decide (x ∈ ds.map dbool))) :=
  ⟨rIn K true, fun n => by rw [← F.fK n]; exact op_notIn_seq, fun Γ S σ H u y Q q r1 r2 k => by
    cases (show u = .bl x from r1)
    obtain ⟨p, vs, rfl, h1, h2⟩ := h E Γ S σ H y q r2
    rw [da_bools ha h2] at h1
    exact ⟨p, _, rfl, .inl (SqL.of h1), rfl, List.all_eq_true.mpr fun z hz => by obtain ⟨t, _, rfl⟩ := List.mem_map.mp hz; rfl, k _ S H (Same.refl _) q (by rw [← inV_bools]; rfl)⟩⟩
end
theorem dbool_bools (ns : List Bool) : (ns.map PyData.bool).map dbool = ns := by
  rw [List.map_map]
  exact List.map_id _
theorem sums_le {xs : List Sx} {m W x : Int} (h : ∀ p ∈ xs, m * p.2.2.1 * x ≤ p.2.2.2.2.2 * 100 * W) : m * (xs.map fun p => p.2.2.1).sum * x ≤ (xs.map fun p => p.2.2.2.2.2).sum * 100 * W := by
  induction xs with
  | nil => simp
  | cons p xs ih =>
    have h1 := ih fun q hq => h q (List.mem_cons_of_mem _ hq)
    have h2 := h p (List.mem_cons_self ..)
    rw [List.map_cons, List.map_cons, List.sum_cons, List.sum_cons, Int.mul_add, Int.add_mul, Int.add_mul, Int.add_mul]
    omega
theorem free_some {xs : List Sx} {extra : Int} (h : sxOk xs) (hl : xs.length ≤ 100) (he : 0 ≤ extra) {p : Sx} (hp : p ∈ xs.filter liveA) : freeA xs extra ≠ [] := by
  intro e
  have hw := whole_ok h hl hp
  have hm := many_ok h
  have h1 : ∀ p ∈ xs.filter liveA, manyA xs * p.2.2.1 * (100 + extra) ≤ p.2.2.2.2.2 * 100 * wholeA xs := fun q hq => by
    have h2 : ¬ q.2.2.2.2.2 < capA (manyA xs) q.2.2.1 (wholeA xs) extra := fun h3 => by
      have : q ∈ freeA xs extra := List.mem_filter.mpr ⟨hq, by simpa using h3⟩
      rw [e] at this
      exact nomatch this
    have h4 := lt_cap (held := q.2.2.2.2.2) (many := manyA xs) (weight := q.2.2.1) (extra := extra) hw.1
    have h5 := decide_eq_decide.mp h4
    exact Int.not_lt.mp fun h6 => h2 (h5.mp h6)
  have h2 := sums_le h1
  have e1 : ((xs.filter liveA).map fun p => p.2.2.2.2.2).sum = manyA xs - 1 := by unfold manyA; omega
  have e2 : ((xs.filter liveA).map fun p => p.2.2.1).sum = wholeA xs := rfl
  rw [e1, e2] at h2
  have hw0 := hw.1
  generalize manyA xs = m at *
  generalize wholeA xs = W at *
  have h3 : m * W * 100 ≤ m * W * (100 + extra) := Int.mul_le_mul_of_nonneg_left (by omega) (Int.mul_nonneg (by omega) (by omega))
  rw [Int.sub_mul, Int.sub_mul, Int.mul_assoc m 100 W, Int.mul_comm 100 W, ← Int.mul_assoc m W 100] at h2
  generalize m * W * (100 + extra) = u at *
  generalize m * W * 100 = v at *
  omega
theorem dep_sxD {k : Nat} {m : Sx} : dep (k + 1) (sxD m) := dep_tup (depA_cons dep_str (depA_cons dep_str (depA_cons dep_int (depA_cons dep_str (depA_cons dep_bool (depA_cons dep_int depA_nil))))))
def goneP (q : Sx × Nat) : Sx := (q.1.1, q.1.2.1, q.1.2.2.1, decide ((q.2 : Int) % 2 = 1), decide ((q.2 : Int) % 2 = 1), q.1.2.2.2.2.2)
theorem gone_free {xs : List Sx} {extra : Int} : freeA (xs.zipIdx.map goneP) extra = [] := by
  unfold freeA
  have : (xs.zipIdx.map goneP).filter liveA = [] := List.filter_eq_nil_iff.mpr fun p hp => by
    obtain ⟨q, _, rfl⟩ := List.mem_map.mp hp
    unfold liveA goneP
    cases decide ((q.2 : Int) % 2 = 1) <;> simp
  rw [this]
  rfl
theorem gone_ok {xs : List Sx} (h : sxOk xs) : sxOk (xs.zipIdx.map goneP) := fun p hp => by
  obtain ⟨q, hq, rfl⟩ := List.mem_map.mp hp
  exact h q.1 (List.fst_mem_of_mem_zipIdx hq)
theorem gone_wd (n : Nat) : (List.map dstr [PyData.str "ill", PyData.str "well"]).getD ((n : Int) % 2).toNat Str.empty = wdA (decide ((n : Int) % 2 = 1)) := by
  have : (n : Int) % 2 = 0 ∨ (n : Int) % 2 = 1 := by omega
  rcases this with h | h <;> rw [h] <;> rfl
end SL

/-! who is chosen: the plain side -/
namespace SL
open PySem PySem.Spec PyProof.Rows L2
def dOS : Option Str → Sl
  | none => dN
  | some x => dS x
def p0 : Sx := (Str.empty, Str.empty, 1, false, false, 0)
def nearA (ys : List Sx) (zone : Str) : List Sx := ys.filter fun p => decide (p.2.1 = zone)
def someA (xs : List Sx) (zone : Str) (extra : Int) : List Sx := if decide (((nearA (freeA xs extra) zone).length : Int) > 0) = true then nearA (freeA xs extra) zone else freeA xs extra
def namedA (ys : List Sx) : List (Str × Sx) := ys.foldl (fun d p => pt d p.1 p) []
theorem named_app (ys : List Sx) (p : Sx) : namedA (ys ++ [p]) = pt (namedA ys) p.1 p := by unfold namedA; rw [List.foldl_append]; rfl
theorem rev_ind {α : Type} {P : List α → Prop} (h0 : P []) (h1 : ∀ l x, P l → P (l ++ [x])) (l : List α) : P l := by
  have : ∀ l : List α, P l.reverse := fun l => by
    induction l with
    | nil => exact h0
    | cons x l ih => rw [List.reverse_cons]; exact h1 _ _ ih
  have h := this l.reverse
  rwa [List.reverse_reverse] at h
theorem named_len (ys : List Sx) : (namedA ys).length ≤ ys.length := by
  refine rev_ind (P := fun ys => (namedA ys).length ≤ ys.length) (Nat.le_refl _) (fun l x ih => ?_) ys
  rw [named_app, List.length_append]
  exact Nat.le_trans (pt_len _ _ _) (Nat.succ_le_succ ih)
theorem named_mem {x : Str} {p : Sx} (ys : List Sx) : lk (namedA ys) x = some p → p ∈ ys ∧ p.1 = x := by
  refine rev_ind (P := fun ys => lk (namedA ys) x = some p → p ∈ ys ∧ p.1 = x) (fun h => nomatch h) (fun l q ih h => ?_) ys
  rw [named_app, lk_pt] at h
  split at h
  · rename_i h2
    cases h
    exact ⟨List.mem_append.mpr (.inr (List.mem_singleton.mpr rfl)), h2.symm⟩
  · exact ⟨List.mem_append.mpr (.inl (ih h).1), (ih h).2⟩
theorem named_some {ys : List Sx} {p : Sx} (hp : p ∈ ys) : (lk (namedA ys) p.1).isSome = true := by
  revert hp
  refine rev_ind (P := fun ys => p ∈ ys → (lk (namedA ys) p.1).isSome = true) (fun h => nomatch h) (fun l q ih h => ?_) ys
  rw [named_app, lk_pt]
  split
  · rfl
  · rename_i h2
    rcases List.mem_append.mp h with h | h
    · exact ih h
    · rw [List.mem_singleton.mp h] at h2
      exact absurd rfl h2
def pickA (d : List (Str × Sx)) (x : Str) : Sx := (lk d x).getD p0
def svA (xs : List Sx) : List (Str × Int) := xs.map fun p => (p.1, p.2.2.1)
theorem svA_ok {xs : List Sx} (h : sxOk xs) : svOk (svA xs) := fun p hp => by
  obtain ⟨q, hq, rfl⟩ := List.mem_map.mp hp
  exact ⟨(h q hq).1, (h q hq).2.2.1, (h q hq).2.2.2.1⟩
def metX (xs : List Sx) (asker zone : Str) (size extra : Int) : List Sx :=
  ((rowA (marksA (svA xs) size) (spotA asker 0 size)).filter fun n => (lk (namedA (someA xs zone extra)) n).isSome).map (pickA (namedA (someA xs zone extra)))
def lighterA (a b : Sx) : Sx := if decide (b.2.2.2.2.2 * a.2.2.1 < a.2.2.2.2.2 * b.2.2.1) = true then b else a
def firstA : List Sx → Option Str
  | [] => none
  | [a] => some a.1
  | a :: b :: _ => some (lighterA a b).1
def chosenA (xs : List Sx) (asker zone : Str) (size extra : Int) : Option Str := firstA (metX xs asker zone size extra)
theorem some_sub {xs : List Sx} {zone : Str} {extra : Int} {p : Sx} (h : p ∈ someA xs zone extra) : p ∈ freeA xs extra := by
  unfold someA at h
  split at h
  · exact (List.mem_filter.mp h).1
  · exact h
theorem free_sub {xs : List Sx} {extra : Int} {p : Sx} (h : p ∈ freeA xs extra) : p ∈ xs := (List.mem_filter.mp (List.mem_filter.mp h).1).1
theorem met_sub {xs : List Sx} {asker zone : Str} {size extra : Int} {p : Sx} (h : p ∈ metX xs asker zone size extra) : p ∈ someA xs zone extra := by
  unfold metX at h
  obtain ⟨n, hn, rfl⟩ := List.mem_map.mp h
  have h2 := (List.mem_filter.mp hn).2
  obtain ⟨q, hq⟩ := Option.isSome_iff_exists.mp h2
  unfold pickA
  rw [hq]
  exact (named_mem _ hq).1
theorem some_len {xs : List Sx} {zone : Str} {extra : Int} : (someA xs zone extra).length ≤ xs.length := by
  unfold someA
  split
  · exact Nat.le_trans (List.length_filter_le _ _) freeA_len
  · exact freeA_len
theorem atI0 {α : Type} {x : α} {xs : List α} : atI (x :: xs) 0 = some x := atI_nat (j := 0) rfl
theorem atI1 {α : Type} {x y : α} {xs : List α} : atI (x :: y :: xs) 1 = some y := atI_nat (j := 1) rfl
end SL

/-! led within caps: the plain side; xs.index(x) -/
namespace SL
open PySem PySem.Spec PyProof.Rows L2
section
variable {ι : Type} {X : ι → Cx} {K : PySem.W.Frag} {E : Ent} {B : Hp} {Γ Γ' : Slots} {R R' R1 R2' R3 : List Res} {a b c e o : Expr} {es : List Expr} {pos p' : Pos} {s s1 s2 s3 : Sl}
  {P : Program} {w : World} {mg : Str → Option Value} {base : Heap} {A : Around} {N : List Str} {rest sts : List Stmt} {D : Ends} {S S' H H' : Hp} {σ σ' : L2.St} {f : Str} {ps : List Str} {i j : Int} {x y : Str}
theorem ev_lindex (F : Fam X P w K mg base A N) {ns : List Str} {m : Nat} {apos : Pos} (ho : EvJ X K E Γ R o R s1) (hl : LV K R s1 (ns.map .str)) (ha : EvJ X K E Γ R e R (dS x)) (hm : ns[m]? = some x) (hf : ∀ k, k < m → ns[k]? ≠ some x)
    (hbase : ∀ i, attributeBase o "index" (X i).env (eval o (X i).env) = eval o (X i).env := by exact fun _ => rfl)
    (hfew : ∀ i, ((backTo pos (starEach [e] (X i).env)).all (fun x => !x.1) && (backToKw pos (keywordEach [] (X i).env)).all (fun x => x.1.isSome) && decide ([e].length + ([] : List Keyword).length + (if ([] : List Keyword).isEmpty then 0 else 1) < 30)) = true := by exact fun _ => rfl)
    (hline : (apos.endLine == pos.line) = true := by rfl) (hst : ∀ i, starEach [e] (X i).env = (false, eval e (X i).env) :: starEach [] (X i).env := by exact fun _ => rfl) (hplain : ∀ i, (backTo pos (starEach [] (X i).env)).any (·.1) = false := by exact fun _ => rfl) :
    EvJ X K E Γ R (.Call (.Attribute o "index" apos) [e] [] pos) R (dI (m : Int)) := by
  refine ev_mt F PySem.F.plainAttrs_list PySem.F.slot_list_index PySem.F.type_list_index ho (ar_cons ha ar_nil hst) ⟨rIndex K, fun n => by rw [← F.fK n]; exact mt_index, fun Γ S σ H v q r => tyL hl q r, fun Γ S σ H v xs Q q r1 r2 k' => ?_⟩ hbase hfew hline hst hplain
  obtain ⟨u, rfl, r3⟩ := all2_one r2
  cases (show u = .str x from r3)
  obtain ⟨p, vs, rfl, g1, g2⟩ := hl E Γ S σ H v q r1
  have ev : vs = ns.map V.str := by
    rw [da_strs (by rw [List.all_map]; exact List.all_eq_true.mpr fun _ _ => rfl) g2, dstr_strs]
  subst ev
  refine ⟨p, _, _, m, .str x, rfl, rfl, SqL.of g1, rfl, List.all_eq_true.mpr fun z hz => by obtain ⟨t, _, rfl⟩ := List.mem_map.mp hz; rfl, by rw [List.getElem?_map, hm]; rfl, beq_self_eq_true x, fun k z' hk hz => ?_, k' _ S H (Same.refl _) q rfl⟩
  rw [List.getElem?_map] at hz
  cases hn : ns[k]? with
  | none => rw [hn] at hz; exact nomatch hz
  | some t =>
    rw [hn] at hz
    cases hz
    exact beq_false_of_ne fun e => hf k hk (by rw [hn, e])
end
theorem flat_dOS {o : Option Str} : Flat (dOS o) := by cases o <;> exact flat_v
theorem chosen_some {xs : List Sx} {asker zone : Str} {size extra : Int} (h : sxOk xs) (hl : xs.length ≤ 100) (he : 0 ≤ extra) {p : Sx} (hp : p ∈ xs) (hv : liveA p = true) : ∃ q ∈ freeA xs extra, chosenA xs asker zone size extra = some q.1 := by
  have h1 := free_some h hl he (List.mem_filter.mpr ⟨hp, hv⟩)
  have h2 : ∃ r, r ∈ someA xs zone extra := by
    unfold someA
    split
    · rename_i h3
      have h3 := of_decide_eq_true h3
      exact List.exists_mem_of_length_pos (by omega)
    · exact List.exists_mem_of_ne_nil _ h1
  obtain ⟨r, hr⟩ := h2
  have h4 : r.1 ∈ rowA (marksA (svA xs) size) (spotA asker 0 size) := by
    rw [mem_rowA, mem_marksA (svA_ok h)]
    exact List.mem_map.mpr ⟨(r.1, r.2.2.1), List.mem_map.mpr ⟨r, free_sub (some_sub hr), rfl⟩, rfl⟩
  have h5 : metX xs asker zone size extra ≠ [] := fun e => by
    unfold metX at e
    rw [List.map_eq_nil_iff] at e
    have : r.1 ∈ ((rowA (marksA (svA xs) size) (spotA asker 0 size)).filter fun n => (lk (namedA (someA xs zone extra)) n).isSome) := List.mem_filter.mpr ⟨h4, named_some hr⟩
    rw [e] at this
    exact nomatch this
  have h6 : ∀ q ∈ metX xs asker zone size extra, q ∈ freeA xs extra := fun q hq => some_sub (met_sub hq)
  unfold chosenA
  match hm : metX xs asker zone size extra, h5, h6 with
  | [a], _, h6 => exact ⟨a, h6 a (by simp), rfl⟩
  | a :: b :: t, _, h6 =>
    refine ⟨lighterA a b, ?_, rfl⟩
    unfold lighterA
    split
    · exact h6 b (by simp)
    · exact h6 a (by simp)
theorem idx_of {xs : List Sx} {q : Sx} (hn : (xs.map (·.1)).Nodup) (hq : q ∈ xs) : ∃ m, xs[m]? = some q ∧ m < xs.length ∧ ∀ k, k < m → (xs.map (·.1))[k]? ≠ some q.1 := by
  obtain ⟨m, hm, e⟩ := List.getElem_of_mem hq
  refine ⟨m, by rw [List.getElem?_eq_getElem hm, e], hm, fun k hk hz => ?_⟩
  have h1 : (xs.map (·.1))[m]? = some q.1 := by rw [List.getElem?_map, List.getElem?_eq_getElem hm, e]; rfl
  have h2 : (xs.map (·.1))[k]? = (xs.map (·.1))[m]? := by rw [hz, h1]
  have := (List.getElem?_inj (by rw [List.length_map]; omega) hn).mp h2
  omega
theorem sum_set {l : List Int} {m : Nat} {x : Int} (h : l[m]? = some x) : (l.set m (x + 1)).sum = l.sum + 1 := by
  induction l generalizing m with
  | nil => exact nomatch h
  | cons a l ih =>
    cases m with
    | zero =>
      cases h
      rw [List.set_cons_zero, List.sum_cons, List.sum_cons]
      omega
    | succ m =>
      rw [List.set_cons_succ, List.sum_cons, List.sum_cons, ih (m := m) (by simpa using h)]
      omega
def heldUp (q : Sx) : Sx := (q.1, q.2.1, q.2.2.1, q.2.2.2.1, q.2.2.2.2.1, q.2.2.2.2.2 + 1)
def heldA (xs : List Sx) : Int := (xs.map fun p => p.2.2.2.2.2).sum
theorem held_set {xs : List Sx} {m : Nat} {q : Sx} (h : xs[m]? = some q) : heldA (xs.set m (heldUp q)) = heldA xs + 1 := by
  unfold heldA
  rw [List.map_set]
  exact sum_set (by rw [List.getElem?_map, h]; rfl)
theorem names_set {xs : List Sx} {m : Nat} {q : Sx} (h : xs[m]? = some q) : (xs.set m (heldUp q)).map (·.1) = xs.map (·.1) := by
  rw [List.map_set]
  obtain ⟨hm, e⟩ := List.getElem?_eq_some_iff.mp h
  have : (xs.map (·.1))[m]'(by rw [List.length_map]; exact hm) = (heldUp q).1 := by rw [List.getElem_map, e]; rfl
  rw [← this, List.set_getElem_self]
theorem ok_set {xs : List Sx} {m : Nat} {q : Sx} (h : sxOk xs) (hq : q ∈ xs) : sxOk (xs.set m (heldUp q)) := fun p hp => by
  rcases List.mem_or_eq_of_mem_set hp with h1 | h1
  · exact h p h1
  · rw [h1]
    have := h q hq
    exact ⟨this.1, this.2.1, this.2.2.1, this.2.2.2.1, by show 0 ≤ q.2.2.2.2.2 + 1; have := this.2.2.2.2; omega⟩
theorem live_set {xs : List Sx} {m : Nat} {q : Sx} (h : xs[m]? = some q) (hv : liveA q = true) : ∃ p ∈ xs.set m (heldUp q), liveA p = true := by
  obtain ⟨hm, e⟩ := List.getElem?_eq_some_iff.mp h
  exact ⟨heldUp q, List.mem_set hm _, hv⟩
end SL

namespace SL
open PySem PySem.Spec PyProof.Rows L2
section
variable {ι : Type} {X : ι → Cx} {K : PySem.W.Frag} {E : Ent} {Γ : Slots} {R R1 : List Res} {e : Expr}
/-- an int known by what holds of it alone -/
theorem ev_someI {i : Int} (Q : Int → Prop) (h : EvJ X K E Γ R e R1 (dI i)) (hQ : Q i) : EvN X K E Γ R e (fun _ : {y : Int // Q y} => R1) (fun n => dI n.1) := let ⟨t, h1, h2⟩ := h; ⟨t, h1, fun S σ H Q' q k => h2 S σ H Q' q (k ⟨i, hQ⟩)⟩
end
theorem small_str {x : Nat} (h : x < 40) : (x : Int).natAbs.log2 < 1920 := by
  have h1 : (x : Int).natAbs = x := rfl
  rw [h1]
  have : ∀ y : Nat, y < 40 → y.log2 < 1920 := by decide +kernel
  exact this x h
theorem ask_ok (x : Nat) (h : x < 40) : nmOk (("a" : Str) ++ toString (x : Int)) := by
  have : ∀ y : Nat, y < 40 → ((("a" : Str) ++ toString (y : Int)) : Str).length ≤ 9 ∧ ∀ c ∈ ((("a" : Str) ++ toString (y : Int)) : Str).cps.toList, c ∈ ALN.cps.toList := by decide +kernel
  exact this x h
theorem ask_len {x : Nat} (h : x < 40) : ("a" : Str).length + (toString (x : Int) : Str).length ≤ sizeLine := by
  have h1 := (ask_ok x h).1
  rw [app_len] at h1
  have : (sizeLine : Nat) = 16777216 := sizeLine_eq
  omega
end SL

/-! the ring by how far ahead -/
namespace SL
open PySem PySem.Spec PyProof.Rows L2
def farM (spot size : Int) (m : Int × Str) : Int × Str := ((m.1 - spot) % size, m.2)
theorem marksOf_bd {sv : List (Str × Int)} {size : Int} (hs : 0 < size) {m : Int × Str} (h : m ∈ marksOf sv size) : 0 ≤ m.1 ∧ m.1 < size := by
  unfold marksOf at h
  obtain ⟨p, _, h2⟩ := List.mem_flatMap.mp h
  obtain ⟨t, _, rfl⟩ := List.mem_map.mp h2
  exact ⟨Int.emod_nonneg _ (Int.ne_of_gt hs), Int.emod_lt_of_pos _ hs⟩
theorem far_hi {a spot size : Int} (h1 : spot ≤ a) (h2 : a < size) (h3 : 0 ≤ spot) : (a - spot) % size = a - spot := Int.emod_eq_of_lt (by omega) (by omega)
theorem far_lo {a spot size : Int} (h1 : a < spot) (h2 : 0 ≤ a) (h3 : spot < size) : (a - spot) % size = a - spot + size := by
  rw [← Int.add_emod_right]
  exact Int.emod_eq_of_lt (by omega) (by omega)
theorem leM_shift {a b : Int × Str} {x y : Int} (h : leM a b = true) (hx : x - a.1 = y - b.1) : leM (x, a.2) (y, b.2) = true := by
  unfold leM at *
  simp only [Bool.or_eq_true, Bool.and_eq_true, decide_eq_true_eq] at *
  rcases h with h | ⟨h, h'⟩
  · exact .inl (by omega)
  · exact .inr ⟨by omega, h'⟩
theorem far_ring {sv : List (Str × Int)} {size spot : Int} (hs : 0 < size) (h0 : 0 ≤ spot) (h1 : spot < size) : (ringA (marksA sv size) spot).map (farM spot size) = ((marksOf sv size).map (farM spot size)).mergeSort leM := by
  have hb : ∀ m ∈ marksA sv size, 0 ≤ m.1 ∧ m.1 < size := fun m hm => marksOf_bd hs ((List.mergeSort_perm _ _).mem_iff.mp hm)
  have hp : (marksA sv size).Pairwise (fun a b => leM a b = true) := List.pairwise_mergeSort leM_trans leM_total _
  refine List.Perm.eq_of_pairwise (le := fun a b => leM a b = true) (fun a b _ _ h1 h2 => leM_anti h1 h2) ?_ (List.pairwise_mergeSort leM_trans leM_total _) ?_
  · unfold ringA
    rw [List.map_append, List.pairwise_append]
    refine ⟨?_, ?_, ?_⟩
    · rw [List.pairwise_map]
      refine List.Pairwise.imp_of_mem (fun {a b} ha hb' hab => ?_) (hp.filter _)
      obtain ⟨a1, a2⟩ := List.mem_filter.mp ha
      obtain ⟨b1, b2⟩ := List.mem_filter.mp hb'
      have a2 := of_decide_eq_true a2
      have b2 := of_decide_eq_true b2
      have a3 := hb a a1
      have b3 := hb b b1
      unfold farM
      rw [far_hi a2 a3.2 h0, far_hi b2 b3.2 h0]
      exact leM_shift hab (by omega)
    · rw [List.pairwise_map]
      refine List.Pairwise.imp_of_mem (fun {a b} ha hb' hab => ?_) (hp.filter _)
      obtain ⟨a1, a2⟩ := List.mem_filter.mp ha
      obtain ⟨b1, b2⟩ := List.mem_filter.mp hb'
      have a2 := of_decide_eq_true a2
      have b2 := of_decide_eq_true b2
      have a3 := hb a a1
      have b3 := hb b b1
      unfold farM
      rw [far_lo a2 a3.1 h1, far_lo b2 b3.1 h1]
      exact leM_shift hab (by omega)
    · intro x hx y hy
      obtain ⟨a, ha, rfl⟩ := List.mem_map.mp hx
      obtain ⟨b, hb', rfl⟩ := List.mem_map.mp hy
      obtain ⟨a1, a2⟩ := List.mem_filter.mp ha
      obtain ⟨b1, b2⟩ := List.mem_filter.mp hb'
      have a2 := of_decide_eq_true a2
      have b2 := of_decide_eq_true b2
      have a3 := hb a a1
      have b3 := hb b b1
      unfold farM leM
      rw [far_hi a2 a3.2 h0, far_lo b2 b3.1 h1]
      simp only [Bool.or_eq_true, Bool.and_eq_true, decide_eq_true_eq]
      exact .inl (by omega)
  · refine List.Perm.trans ?_ (List.mergeSort_perm _ _).symm
    refine List.Perm.map _ ?_
    unfold ringA
    have e : (fun m : Int × Str => decide (m.1 < spot)) = fun m => !decide (m.1 ≥ spot) := by
      funext m
      by_cases h : m.1 < spot
      · have : ¬ m.1 ≥ spot := by omega
        simp [h]
      · have : m.1 ≥ spot := by omega
        simp [h, this]
    rw [e]
    exact (List.filter_append_perm _ _).trans (List.mergeSort_perm _ _)
theorem row_far {sv : List (Str × Int)} {size spot : Int} (hs : 0 < size) (h0 : 0 ≤ spot) (h1 : spot < size) : rowA (marksA sv size) spot = metA ((((marksOf sv size).map (farM spot size)).mergeSort leM).map (·.2)) := by
  rw [← far_ring hs h0 h1, List.map_map]
  rfl
end SL

/-! who is led, by the row of the free ones alone -/
namespace SL
open PySem PySem.Spec PyProof.Rows L2
theorem some_flt (xs : List Sx) (zone : Str) (extra : Int) : ∃ P : Sx → Bool, someA xs zone extra = xs.filter P := by
  unfold someA
  split
  · unfold nearA freeA
    rw [List.filter_filter, List.filter_filter]
    exact ⟨_, rfl⟩
  · unfold freeA
    rw [List.filter_filter]
    exact ⟨_, rfl⟩
theorem name_inj {xs : List Sx} (hn : (xs.map (·.1)).Nodup) {p q : Sx} (hp : p ∈ xs) (hq : q ∈ xs) (e : p.1 = q.1) : p = q := by
  induction xs with
  | nil => exact nomatch hp
  | cons x xs ih =>
    rw [List.map_cons, List.nodup_cons] at hn
    rcases List.mem_cons.mp hp with h1 | h1 <;> rcases List.mem_cons.mp hq with h2 | h2
    · rw [h1, h2]
    · exact absurd (List.mem_map.mpr ⟨q, h2, by rw [← e, h1]⟩) hn.1
    · exact absurd (List.mem_map.mpr ⟨p, h1, by rw [e, h2]⟩) hn.1
    · exact ih hn.2 h1 h2
theorem one_name {xs : List Sx} (hn : (xs.map (·.1)).Nodup) {p : Sx} (hp : p ∈ xs) : (xs.filter fun q => decide (q.1 = p.1)) = [p] := by
  induction xs with
  | nil => exact nomatch hp
  | cons x xs ih =>
    have hn' := hn
    rw [List.map_cons, List.nodup_cons] at hn'
    by_cases e : x.1 = p.1
    · have hx := name_inj hn (List.mem_cons_self ..) hp e
      rw [List.filter_cons_of_pos (by simp [e]), hx]
      congr 1
      refine List.filter_eq_nil_iff.mpr fun q hq h => ?_
      have h2 := of_decide_eq_true h
      exact hn'.1 (List.mem_map.mpr ⟨q, hq, by rw [h2, e]⟩)
    · rw [List.filter_cons_of_neg (by simp [e])]
      rcases List.mem_cons.mp hp with h1 | h1
      · exact absurd (by rw [h1]) e
      · exact ih hn'.2 h1
theorem some_nd {xs : List Sx} {zone : Str} {extra : Int} (hn : (xs.map (·.1)).Nodup) : ((someA xs zone extra).map (·.1)).Nodup := by
  obtain ⟨P, e⟩ := some_flt xs zone extra
  rw [e]
  exact List.Nodup.sublist ((List.filter_sublist).map _) hn
theorem flt_named {xs : List Sx} {zone : Str} {extra : Int} (hn : (xs.map (·.1)).Nodup) : (xs.filter fun q => (lk (namedA (someA xs zone extra)) q.1).isSome) = someA xs zone extra := by
  obtain ⟨P, e⟩ := some_flt xs zone extra
  have h1 : ∀ q ∈ xs, (lk (namedA (someA xs zone extra)) q.1).isSome = P q := fun q hq => by
    rw [Bool.eq_iff_iff]
    constructor
    · intro h
      obtain ⟨p, hp⟩ := Option.isSome_iff_exists.mp h
      obtain ⟨h2, h3⟩ := named_mem _ hp
      rw [e] at h2
      have h4 := name_inj hn (List.mem_filter.mp h2).1 hq h3
      rw [← h4]
      exact (List.mem_filter.mp h2).2
    · intro h
      exact named_some (by rw [e]; exact List.mem_filter.mpr ⟨hq, h⟩)
  rw [List.filter_congr h1, ← e]
/-- the names met from a spot on, of some -/
def rowX (ys : List Sx) (spot size : Int) : List Str := metA ((((marksOf (svA ys) size).map (farM spot size)).mergeSort leM).map (·.2))
theorem met_row {xs : List Sx} {asker zone : Str} {size extra : Int} (hn : (xs.map (·.1)).Nodup) (hs : 0 < size) : metX xs asker zone size extra = (rowX (someA xs zone extra) (spotA asker 0 size) size).map (pickA (namedA (someA xs zone extra))) := by
  unfold metX rowX
  have e1 : (svA xs).filter (fun p => (lk (namedA (someA xs zone extra)) p.1).isSome) = svA (someA xs zone extra) := by
    unfold svA
    rw [List.filter_map]
    show List.map _ (xs.filter fun q => (lk (namedA (someA xs zone extra)) q.1).isSome) = _
    rw [flt_named hn]
  rw [row_filter, e1, row_far (spot := spotA asker 0 size) hs (Int.emod_nonneg _ (Int.ne_of_gt hs)) (Int.emod_lt_of_pos _ hs)]
theorem mem_rowX {ys : List Sx} {spot size : Int} (h : sxOk ys) {n : Str} : n ∈ rowX ys spot size ↔ n ∈ ys.map (·.1) := by
  unfold rowX
  rw [mem_metA, ((List.mergeSort_perm _ leM).map (·.2)).mem_iff, List.map_map]
  have := mem_marksA (n := n) (size := size) (svA_ok h)
  unfold marksA at this
  rw [((List.mergeSort_perm _ leM).map (·.2)).mem_iff] at this
  show n ∈ (marksOf (svA ys) size).map (·.2) ↔ _
  rw [this]
  unfold svA
  rw [List.map_map]
  rfl
theorem pick_one {ys : List Sx} (hn : (ys.map (·.1)).Nodup) {n : Str} (h : n ∈ ys.map (·.1)) : (ys.filter fun q => decide (q.1 = n)) = [pickA (namedA ys) n] := by
  obtain ⟨p, hp, rfl⟩ := List.mem_map.mp h
  obtain ⟨q, hq⟩ := Option.isSome_iff_exists.mp (named_some hp)
  have h2 := named_mem _ hq
  have e : q = p := name_inj hn h2.1 hp h2.2
  unfold pickA
  rw [hq, e]
  exact one_name hn hp
end SL

namespace SL
open PySem PySem.Spec PyProof.Rows L2
section
variable {ι : Type} {X : ι → Cx} {K : PySem.W.Frag} {E : Ent} {B : Hp} {Γ Γ' : Slots} {R R' : List Res} {rest : List Stmt} {D : Ends} {pos : Pos}
theorem blk_cont (h : ∀ S σ H, Same B S → SR K E Γ R S σ H → D.ct σ H) : Blk X K E B Γ R (.Continue pos :: rest) D :=
  ⟨tSeq tCont _, fun i => pss_cons ps_continue pss_of_never, fun S σ H b q => h S σ H b q⟩
theorem blk_contD {R2 : List Res} (hR : R = R' ++ R2) (hw : All2 WkS Γ' Γ) (hD : D.ct = Pst K E B Γ' R') : Blk X K E B Γ R (.Continue pos :: rest) D :=
  blk_cont fun S σ H b q => by rw [hD]; exact ⟨S, b, wkD hR hw S σ H q⟩
/-- a op b, a something new known by what holds of it -/
theorem ev_binNN {ν μ : Type} {a b : Expr} {op : Operator} {Rn R2' : ν → List Res} {sn : ν → Sl} {s2 : ν → Sl} {R3 : ν × μ → List Res} {s3 : ν × μ → Sl} (ha : EvN X K E Γ R a Rn sn) (hb : ∀ n, EvJ X K E Γ (Rn n) b (R2' n) (s2 n)) (ho : ∀ n, BinRN X K E (binaryOp op) (R2' n) (sn n) (s2 n) (fun m => R3 (n, m)) (fun m => s3 (n, m))) : EvN X K E Γ R (.BinOp a op b pos) R3 s3 := by
  obtain ⟨ta, a1, a2⟩ := ha
  have hb' := fun n => Classical.choose_spec (hb n)
  have ho' := fun n => Classical.choose_spec (ho n)
  refine ⟨tOp (fun x y H Q => ∃ n, Classical.choose (ho n) x y H Q) ta _, fun i => pe_op (fun pins s σ H x y v u Q I rx ry ⟨n, h⟩ => (ho' n).1 i pins s σ H x y v u Q I rx ry h) (a1 i) (pe_any fun n => (hb' n).1 i), fun S σ H Q q k => ?_⟩
  refine a2 S σ H _ q fun n x S1 H1 e1 q1 r1 => ⟨n, (hb' n).2 S1 σ H1 _ q1 fun y S2 H2 e2 q2 r2 => ⟨n, ?_⟩⟩
  exact (ho' n).2 Γ S2 σ H2 x y Q q2 ((sn n).mono e2 r1) r2 fun m v S3 H3 e3 q3 r3 => k (n, m) v S3 H3 ((e1.trans e2).trans e3) q3 r3
end
end SL

/-! who is free and who is chosen: by the live ones alone, whatever their order -/
namespace SL
open PySem PySem.Spec PyProof.Rows L2
theorem sum_perm {l l' : List Int} (h : l.Perm l') : l.sum = l'.sum := by
  induction h with
  | nil => rfl
  | cons x _ ih => rw [List.sum_cons, List.sum_cons, ih]
  | swap x y l => simp only [List.sum_cons]; omega
  | trans _ _ h1 h2 => exact h1.trans h2
theorem free_perm {xs ys : List Sx} {extra : Int} (h : (xs.filter liveA).Perm (ys.filter liveA)) : (freeA xs extra).Perm (freeA ys extra) := by
  have e1 : manyA xs = manyA ys := by
    unfold manyA
    rw [sum_perm (h.map _)]
  have e2 : wholeA xs = wholeA ys := sum_perm (h.map _)
  unfold freeA
  rw [e1, e2]
  exact h.filter _
theorem free_eq {xs ys : List Sx} {extra : Int} (h : xs.filter liveA = ys.filter liveA) : freeA xs extra = freeA ys extra := by
  unfold freeA manyA wholeA
  rw [h]
theorem some_perm {xs ys : List Sx} {zone : Str} {extra : Int} (h : (freeA xs extra).Perm (freeA ys extra)) : (someA xs zone extra).Perm (someA ys zone extra) := by
  have hn : (nearA (freeA xs extra) zone).Perm (nearA (freeA ys extra) zone) := h.filter _
  unfold someA
  rw [hn.length_eq]
  split
  · exact hn
  · exact h
theorem marksOf_perm {sv sw : List (Str × Int)} {size : Int} (h : sv.Perm sw) : (marksOf sv size).Perm (marksOf sw size) := by
  unfold marksOf
  exact h.flatMap_right _
theorem rowX_perm {ys zs : List Sx} {spot size : Int} (h : ys.Perm zs) : rowX ys spot size = rowX zs spot size := by
  unfold rowX
  have e : (((marksOf (svA ys) size).map (farM spot size)).mergeSort leM) = (((marksOf (svA zs) size).map (farM spot size)).mergeSort leM) :=
    List.Perm.eq_of_pairwise (le := fun a b => leM a b = true) (fun a b _ _ h1 h2 => leM_anti h1 h2) (List.pairwise_mergeSort leM_trans leM_total _) (List.pairwise_mergeSort leM_trans leM_total _) (((List.mergeSort_perm _ _).trans ((marksOf_perm (h.map _)).map _)).trans (List.mergeSort_perm _ _).symm)
  rw [e]
theorem pick_perm {ys zs : List Sx} (hy : (ys.map (·.1)).Nodup) (h : ys.Perm zs) {n : Str} (hn : n ∈ ys.map (·.1)) : pickA (namedA ys) n = pickA (namedA zs) n := by
  have hz : (zs.map (·.1)).Nodup := (h.map _).nodup_iff.mp hy
  have e1 := pick_one hy hn
  have e2 := pick_one hz ((h.map _).mem_iff.mp hn)
  have p := h.filter (fun q => decide (q.1 = n))
  rw [e1, e2] at p
  have := List.perm_singleton.mp p
  exact (List.cons.inj this).1
theorem chosen_perm {xs ys : List Sx} {asker zone : Str} {size extra : Int} (hok : sxOk xs) (hx : (xs.map (·.1)).Nodup) (hy : (ys.map (·.1)).Nodup) (hs : 0 < size) (h : (freeA xs extra).Perm (freeA ys extra)) : chosenA xs asker zone size extra = chosenA ys asker zone size extra := by
  unfold chosenA
  rw [met_row hx hs, met_row hy hs]
  have hp := some_perm (zone := zone) h
  rw [← rowX_perm hp]
  congr 1
  exact List.map_congr_left fun n hn => pick_perm (some_nd hx) hp ((mem_rowX fun p hp => hok p (free_sub (some_sub hp))).mp hn)
theorem chosen_of {xs : List Sx} {asker zone : Str} {size extra : Int} {x : Str} (h : chosenA xs asker zone size extra = some x) : ∃ p ∈ someA xs zone extra, p.1 = x := by
  unfold chosenA at h
  have hs : ∀ p ∈ metX xs asker zone size extra, p ∈ someA xs zone extra := fun p hp => met_sub hp
  generalize metX xs asker zone size extra = l at h hs
  match l, h, hs with
  | [], h, _ => exact nomatch h
  | [a], h, hs => exact ⟨a, hs a (List.mem_cons_self ..), Option.some.inj h⟩
  | a :: b :: r, h, hs =>
    have h' : (lighterA a b).1 = x := Option.some.inj h
    unfold lighterA at h'
    split at h'
    · exact ⟨b, hs b (List.mem_cons_of_mem _ (List.mem_cons_self ..)), h'⟩
    · exact ⟨a, hs a (List.mem_cons_self ..), h'⟩
theorem chosen_none {xs : List Sx} {asker zone : Str} {size extra : Int} (hok : sxOk xs) (hx : (xs.map (·.1)).Nodup) (hs : 0 < size) (h : chosenA xs asker zone size extra = none) : freeA xs extra = [] := by
  unfold chosenA at h
  have h1 : metX xs asker zone size extra = [] := by
    generalize metX xs asker zone size extra = l at h
    cases l with
    | nil => rfl
    | cons a r =>
      cases r with
      | nil => exact nomatch h
      | cons b r => exact nomatch h
  rw [met_row hx hs] at h1
  have h2 := List.map_eq_nil_iff.mp h1
  have h3 : someA xs zone extra = [] := List.eq_nil_iff_forall_not_mem.mpr fun p hp => by
    have := (mem_rowX (spot := spotA asker 0 size) (size := size) (n := p.1) fun p hp => hok p (free_sub (some_sub hp))).mpr (List.mem_map.mpr ⟨p, hp, rfl⟩)
    rw [h2] at this
    exact nomatch this
  unfold someA at h3
  split at h3
  · rename_i hc
    rw [h3] at hc
    simp at hc
  · exact h3
theorem near_in {xs : List Sx} {asker zone : Str} {size extra : Int} {x : Str} (hx : (xs.map (·.1)).Nodup) (h : chosenA xs asker zone size extra = some x) :
    let near := xs.filter fun p => decide (p.1 ∈ (freeA xs extra).map (·.1)) && decide (p.2.1 = zone)
    (near = [] → x ∈ (freeA xs extra).map (·.1)) ∧ (near ≠ [] → x ∈ near.map (·.1)) := by
  intro near
  obtain ⟨p, hp, rfl⟩ := chosen_of h
  have hpf := some_sub hp
  refine ⟨fun _ => List.mem_map.mpr ⟨p, hpf, rfl⟩, fun hn => ?_⟩
  obtain ⟨q, hq⟩ := List.exists_mem_of_ne_nil _ hn
  obtain ⟨q1, q2⟩ := List.mem_filter.mp hq
  obtain ⟨q3, q4⟩ := Bool.and_eq_true_iff.mp q2
  have q3 := of_decide_eq_true q3
  obtain ⟨r, hr, e⟩ := List.mem_map.mp q3
  have e2 := name_inj hx (free_sub hr) q1 e
  rw [e2] at hr
  have hq5 : q ∈ nearA (freeA xs extra) zone := List.mem_filter.mpr ⟨hr, q4⟩
  have hlen : 0 < (nearA (freeA xs extra) zone).length := List.length_pos_of_mem hq5
  unfold someA at hp
  rw [if_pos (decide_eq_true (show ((nearA (freeA xs extra) zone).length : Int) > 0 by omega))] at hp
  obtain ⟨p1, p2⟩ := List.mem_filter.mp hp
  exact List.mem_map.mpr ⟨p, List.mem_filter.mpr ⟨free_sub hpf, by rw [p2, Bool.and_true]; exact decide_eq_true (List.mem_map.mpr ⟨p, hpf, rfl⟩)⟩, rfl⟩
end SL

/-! arguments of which a law is told -/
namespace SL
open PySem PySem.Spec PyProof.Rows L2
section
variable {ι : Type} (X : ι → Cx) (K : PySem.W.Frag) (E : Ent)
def ArN {ν : Type} (Γ : Slots) (R : List Res) (es : List Expr) (R' : ν → List Res) (ss : ν → List Sl) : Prop :=
  ∃ t : TA, (∀ i, PA (X i) es t) ∧ ∀ S σ H (Q : List V → Hp → Prop), SR K E Γ R S σ H → (∀ n, KontA K E Γ (R' n) σ S (ss n) Q) → t σ H Q
end
section
variable {ι : Type} {X : ι → Cx} {K : PySem.W.Frag} {E : Ent} {Γ : Slots} {R R1 : List Res} {e : Expr} {es : List Expr} {pos : Pos} {s : Sl}
theorem pa_any {Y : Cx} {ν : Type} {u : ν → TA} (h : ∀ n, PA Y es (u n)) : PA Y es (fun σ H Q => ∃ n, u n σ H Q) := ⟨fun pos pins s σ H Q I ⟨n, q⟩ => (h n).run pos pins s σ H Q I q⟩
theorem arn_of {ss : List Sl} (h : ArJ X K E Γ R es R1 ss) : ArN X K E Γ R es (fun _ : Unit => R1) (fun _ => ss) := let ⟨t, h1, h2⟩ := h; ⟨t, h1, fun S σ H Q q k => h2 S σ H Q q (k ())⟩
theorem arn_nil : ArN X K E Γ R [] (fun _ : Unit => R) (fun _ => []) := arn_of ar_nil
theorem evn_of (h : EvJ X K E Γ R e R1 s) : EvN X K E Γ R e (fun _ : Unit => R1) (fun _ => s) := let ⟨t, h1, h2⟩ := h; ⟨t, h1, fun S σ H Q q k => h2 S σ H Q q (k ())⟩
theorem arn_cons {ν μ : Type} {Rn : ν → List Res} {sn : ν → Sl} {Rm : ν → μ → List Res} {ss : ν → μ → List Sl} (h : EvN X K E Γ R e Rn sn) (hr : ∀ n, ArN X K E Γ (Rn n) es (Rm n) (ss n)) (hs : ∀ i, starEach (e :: es) (X i).env = (false, eval e (X i).env) :: starEach es (X i).env := by exact fun _ => rfl) :
    ArN X K E Γ R (e :: es) (fun p : ν × μ => Rm p.1 p.2) (fun p => sn p.1 :: ss p.1 p.2) := by
  obtain ⟨t, h1, h2⟩ := h
  have hr' := fun n => Classical.choose_spec (hr n)
  refine ⟨tCons t _, fun i => pa_cons (h1 i) (pa_any fun n => (hr' n).1 i) (hs i), fun S σ H Q q k => h2 S σ H _ q fun n v S1 H1 e1 q1 r1 => ⟨n, (hr' n).2 S1 σ H1 _ q1 fun m vs S2 H2 e2 q2 r2 => ?_⟩⟩
  exact k (n, m) (v :: vs) S2 H2 (e1.trans e2) q2 (.cons ((sn n).mono e2 r1) r2)
/-- one whose kind is known ahead -/
theorem arn_consJ {μ : Type} {Rm : μ → List Res} {ss : μ → List Sl} (h : EvJ X K E Γ R e R1 s) (hr : ArN X K E Γ R1 es Rm ss) (hs : ∀ i, starEach (e :: es) (X i).env = (false, eval e (X i).env) :: starEach es (X i).env := by exact fun _ => rfl) :
    ArN X K E Γ R (e :: es) Rm (fun m => s :: ss m) := by
  obtain ⟨t, h1, h2⟩ := h
  obtain ⟨u, g1, g2⟩ := hr
  refine ⟨tCons t u, fun i => pa_cons (h1 i) (g1 i) (hs i), fun S σ H Q q k => h2 S σ H _ q fun v S1 H1 e1 q1 r1 => g2 S1 σ H1 _ q1 fun m vs S2 H2 e2 q2 r2 => ?_⟩
  exact k m (v :: vs) S2 H2 (e1.trans e2) q2 (.cons (s.mono e2 r1) r2)
theorem el_lstN {ν : Type} {Rn : ν → List Res} {ss : ν → List Sl} {ds : ν → List PyData} (h : ArN X K E Γ R es Rn ss) (hd : ∀ n, AreD (ss n) (ds n)) (hz : ∀ n, (ss n).length ≤ 1000 := by exact fun _ => Nat.le_of_ble_eq_true rfl) :
    EvN X K E Γ R (.List es pos) (fun n : ν × Addr => Rn n.1 ++ [rL n.2 (ds n.1)]) (fun n => sv (.ref n.2)) := by
  obtain ⟨t, h1, h2⟩ := h
  refine ⟨tLst t, fun i => pe_lst (h1 i), fun S σ H Q q k => h2 S σ H _ q fun n vs S1 H1 e1 q1 r1 => ⟨Nat.le_of_lt (small1000 (by rw [← r1.len]; exact hz n)), fun p hp => ?_⟩⟩
  exact k (n, p) (.ref p) S1 _ e1 (q1.mine hp ⟨vs, rfl, (hd n).all r1⟩) rfl
theorem ev_tupN {ν : Type} {Rn : ν → List Res} {ss : ν → List Sl} {k1 : Nat} (h : ArN X K E Γ R es Rn ss) (hz : ∀ n, (ss n).length ≤ 1000 := by exact fun _ => Nat.le_of_ble_eq_true rfl) : EvN X K E Γ R (.Tuple es k1 pos) Rn (fun n => stup (ss n)) := by
  obtain ⟨t, h1, h2⟩ := h
  refine ⟨tTup t, fun i => pe_tup (h1 i), fun S σ H Q q k => h2 S σ H _ q fun n vs S1 H1 e1 q1 r1 => ⟨Nat.le_of_lt (small1000 (by rw [← r1.len]; exact hz n)), fun p hp => ?_⟩⟩
  refine k n (.ref p) (upd S1 p (.tup vs)) _ (e1.trans (same_new (q1.free hp))) (q1.grow hp) ⟨p, vs, rfl, SqT.of upd_same, r1.imp fun s v h => s.mono (same_new (q1.free hp)) h⟩
section
variable {P : Program} {w : World} {mg : Str → Option Value} {base : Heap} {A : Around} {N : List Str} {s2 : Sl} {x : Str}
theorem br_inLs (F : Fam X P w K mg base A N) {ns : List Str} (h : LV K R s2 (ns.map .str)) : BinR X K E (compareOp .In) R (dS x) s2 (dB (decide (x ∈ ns))) := by
  have h1 := br_inL F (E := E) (x := x) h (by rw [List.all_map]; exact List.all_eq_true.mpr fun _ _ => rfl)
  rw [dstr_strs] at h1
  exact h1
theorem br_ninLs (F : Fam X P w K mg base A N) {ns : List Str} (h : LV K R s2 (ns.map .str)) : BinR X K E (compareOp .NotIn) R (dS x) s2 (dB (!decide (x ∈ ns))) := by
  have h1 := br_ninL F (E := E) (x := x) h (by rw [List.all_map]; exact List.all_eq_true.mpr fun _ _ => rfl)
  rw [dstr_strs] at h1
  exact h1
end
/-- a new list of which a law is told becomes lasting -/
theorem frzM {μ : Type} {ds : μ → List PyData} (h : EvN X K E Γ R e (fun n : Addr × μ => R1 ++ [rL n.1 (ds n.2)]) (fun n => sv (.ref n.1))) : EvN X K E Γ R e (fun _ : μ => R1) (fun m => sd (.list (ds m))) := by
  obtain ⟨t, h1, h2⟩ := h
  refine ⟨t, h1, fun S σ H Q q k => h2 S σ H Q q fun n v S1 H1 e1 q1 r1 => ?_⟩
  cases (show v = .ref n.1 from r1)
  obtain ⟨S2, e2, q2, hd⟩ := q1.freeze
  exact k n.2 _ S2 H1 (e1.trans e2) q2 hd
end
end SL

/-! exceptions: defs that raise, try -/
namespace SL
open PySem PySem.Spec PyProof.Rows L2
/-- a def's promise to raise: under pre, from arguments of which as is said and the cells Rs, an exception of the class C, the cells Rn -/
def spR (K : PySem.W.Frag) {θ : Type} (pre : θ → Prop) (as : θ → List Sl) (Rs : θ → List Res) (C : Addr) (Rn : θ → List Res) : Sp := fun vs H _ EE =>
  ∃ (i : θ) (S0 : Hp) (Os : List Hp), pre i ∧ Same S0 H ∧ All2 (fun (s : Sl) v => s.r K S0 v) (as i) vs ∧ Own K S0 H (Rs i) Os ∧
    ∀ S' H' Os', (∀ a o, H a = some o → ¬ InOs Os a → H' a = some o) → Same S' H' → Same S0 S' → (∀ a, S' a ≠ none → S0 a ≠ none ∨ H a = none ∨ InOs Os a) →
      Own K S' H' (Rn i) Os' → (∀ O ∈ Os', ∀ a, O a ≠ none → InOs Os a ∨ H a = none) → EE (.ref C) none H'
/-- the context of a def's body that lets exceptions out -/
abbrev FXR (P : Program) (w : World) (K : PySem.W.Frag) (mg : Str → Option Value) (base : Heap) (N : List Str) (qual : Str) (st : Stmt) (f : Addr) (cdv : Value) (A : Around) (outer : List Env) (s : Shared) (H : Hp) (E : XK) : Unit → Cx :=
  fun _ => cxOf (L2.CX P w) P w K mg base N qual (defScope st) f cdv A outer s H E
section
variable {ι : Type} {X : ι → Cx} {K : PySem.W.Frag} {E : Ent} {B : Hp} {Γ Γ' : Slots} {R R' R1 R2' R3 : List Res} {a b c e : Expr} {es : List Expr} {pos p' : Pos} {s s1 s2 s3 : Sl}
  {P : Program} {w : World} {mg : Str → Option Value} {base : Heap} {A : Around} {N ps : List Str} {rest sts : List Stmt} {D : Ends} {S S' H H' : Hp} {σ σ' : L2.St} {f : Str} {C : Addr} {W : WX}
theorem fam_fxr {qual : Str} {st : Stmt} {f : Addr} {cdv : Value} {A : Around} {outer : List Env} {s : Shared} {H : Hp} {E : XK} (Sc : FnScope N ps (defScope st)) : Fam (FXR P w K mg base N qual st f cdv A outer s H E) P w K mg base (A.deeper (envOfC qual (defScope st) s.heap.objs.size f cdv)) N :=
  ⟨fun _ => rfl, fun _ => rfl, fun _ => rfl, fun _ => rfl, fun _ => rfl, fun _ => rfl, fun _ => rfl, Sc.nd⟩
/-- what a raise asks at a def's end -/
def ExcOk (K : PySem.W.Frag) (E : Ent) (C : Addr) (Rn : List Res) (W : WX) : Prop := ∀ Γ S σ H, SR K E Γ Rn S σ H → W (.ref C) none σ H
theorem fn_okR {θ : Type} {pre : θ → Prop} {as : θ → List Sl} {Rs Rn : θ → List Res} {x qual : Str} {st : Stmt} {f C : Addr} {fd : FuncData} {k : Nat} (F : Fun K x qual st f fd) (Sc : FnScope N ps (defScope st)) (hlen : ∀ i, (as i).length = ps.length)
    (hb : ∀ (i : θ) (cdv : Value) (A : Around) (outer : List Env) (s : Shared) (H S0 : Hp) (A0 : Addr → Prop) (E : XK) (W : WX) (Q : VK), Room k (A.deeper (envOfC qual (defScope st) s.heap.objs.size f cdv)) → Fam (FXR P w K mg base N qual st f cdv A outer s H E) P w K mg base (A.deeper (envOfC qual (defScope st) s.heap.objs.size f cdv)) N → pre i →
      (∀ i, Takes (FXR P w K mg base N qual st f cdv A outer s H E i) W) → (∀ i, PassesOwn (model (FXR P w K mg base N qual st f cdv A outer s H E i).prog (FXR P w K mg base N qual st f cdv A outer s H E i).w) (FXR P w K mg base N qual st f cdv A outer s H E i).A (FXR P w K mg base N qual st f cdv A outer s H E i).env (FXR P w K mg base N qual st f cdv A outer s H E i).xe) →
      ExcOk K ⟨H, S0, A0⟩ C (Rn i) W →
      Blk (FXR P w K mg base N qual st f cdv A outer s H E) K ⟨H, S0, A0⟩ S0 ((as i).map some ++ List.replicate (N.length - (as i).length) none) (Rs i) (defBody st) { nx := fun _ H' => Q .non H', rt := Q }) :
    FnOk P w K mg base (L2.CX P w) (k + 1) f fd ps (spR K pre as Rs C Rn) := by
  refine F.okX Sc (fun vs H Q E ⟨i, S0, Os, h1, h2, h3, h4, h5⟩ => by rw [← h3.len]; exact hlen i) (fun cdv A outer s H vs Q E hr ⟨i, S0, Os, h1, h2, h3, h4, h5⟩ => ?_)
  obtain ⟨t, t1, t2⟩ := hb i cdv A outer s H S0 (InOs Os) E (fun cls d _ H => E cls d H) Q hr (fam_fxr Sc) h1 (fun _ => takes_of rfl rfl rfl rfl) (fun _ => passes_of rfl) (fun Γ S σ H' q => by
    obtain ⟨Os', g1, g2⟩ := q.own
    exact h5 S H' Os' q.fr q.sub q.ext q.new g1 (fun O hO a ha => g2 O hO a ha))
  refine ⟨t, t1 (), t2 S0 (L2.start N vs) H (Same.refl _) ⟨h2, Same.refl _, fun _ _ e _ => e, fun a ha => .inl ha, ⟨Os, h4, fun O hO a ha => .inl ⟨O, hO, ha⟩⟩, ?_⟩⟩
  unfold L2.start
  rw [h3.len]
  exact (slots_args h3).app (replicate_slots _)
/-! ### the class of an exception -/
structure XcT (K : PySem.W.Frag) (mg : Str → Option Value) (x : Str) (C : Addr) : Prop where
  g : mg x = some (.ref C)
  ex : PySem.W.excIn K C [.type "ValueError", .type "Exception", .type "BaseException", .type "object"] "ValueError.__new__" = true
  kp : PySem.W.keepIn K (.ref C) = true
  sb : PySem.W.subIn K (.ref C) (.type "BaseException") = some true
  ty : PySem.W.typeIn K (.ref C) = some (.type "type")
  hd : PySem.W.hasDictIn K C = true
/-- raise X("..") -/
theorem blk_raise {x m : Str} {j : Nat} {q1 q2 q3 q4 : Pos} (F : Fam X P w K mg base A N) (T : XcT K mg x C) (tk : ∀ i, Takes (X i) W) (h : ∀ S σ H, SR K E Γ R S σ H → W (.ref C) none σ H)
    (hg : ∀ i, Gl (X i) x := by exact fun _ => rfl) (hdb : (x == ("__debug__" : Str)) = false := by decide) (hcm : ∀ i, (X i).calm = true := by exact fun _ => rfl) :
    Blk X K E B Γ R (.Raise (some (.Call (.Name x q1) [.Constant (.str m) j q2] [] q3)) none q4 :: rest) D := by
  refine ⟨tSeq _ _, fun i => pss_cons (ps_raise (hcm i) (tk i) (pmk_own PySem.F.excBase_ValueError (by rw [F.fK i]; exact T.ex) (by rw [F.fmg i]; exact T.g) (by rw [F.fK i]; exact T.kp) (raises_own (by rw [F.fK i]; exact T.sb) (by rw [F.fK i]; exact T.ty)) (hg i) hdb)) pss_of_never, fun S σ H b q => ?_⟩
  exact h S σ H q
/-! ### expressions that raise -/
variable (X) (K) (E) (W) in
def EvR (Γ : Slots) (R : List Res) (e : Expr) (C : Addr) (R' : List Res) : Prop :=
  ∃ t : TE, (∀ i, PE (X i) e t) ∧ ∀ S σ H (Q : VK), SR K E Γ R S σ H → (∀ S' H', Same S S' → SR K E Γ R' S' σ H' → W (.ref C) none σ H') → t σ H Q
variable (X) (K) (E) (W) in
def ArR (Γ : Slots) (R : List Res) (es : List Expr) (C : Addr) (R' : List Res) : Prop :=
  ∃ t : TA, (∀ i, PA (X i) es t) ∧ ∀ S σ H (Q : List V → Hp → Prop), SR K E Γ R S σ H → (∀ S' H', Same S S' → SR K E Γ R' S' σ H' → W (.ref C) none σ H') → t σ H Q
theorem arr_here (h : EvR X K E W Γ R e C R') (ha : ArJ X K E Γ R es R3 ss) (hs : ∀ i, starEach (e :: es) (X i).env = (false, eval e (X i).env) :: starEach es (X i).env := by exact fun _ => rfl) : ArR X K E W Γ R (e :: es) C R' := by
  obtain ⟨t, h1, h2⟩ := h
  obtain ⟨u, g1, _⟩ := ha
  exact ⟨tCons t u, fun i => pa_cons (h1 i) (g1 i) (hs i), fun S σ H Q q k => h2 S σ H _ q k⟩
theorem arr_last (h : EvR X K E W Γ R e C R') (hs : ∀ i, starEach [e] (X i).env = (false, eval e (X i).env) :: starEach [] (X i).env := by exact fun _ => rfl) : ArR X K E W Γ R [e] C R' := arr_here h (ar_nil (K := K) (E := E) (Γ := Γ) (R := R)) hs
theorem arr_cons (h : EvJ X K E Γ R e R1 s) (hr : ArR X K E W Γ R1 es C R') (hs : ∀ i, starEach (e :: es) (X i).env = (false, eval e (X i).env) :: starEach es (X i).env := by exact fun _ => rfl) : ArR X K E W Γ R (e :: es) C R' := by
  obtain ⟨t, h1, h2⟩ := h
  obtain ⟨u, g1, g2⟩ := hr
  exact ⟨tCons t u, fun i => pa_cons (h1 i) (g1 i) (hs i), fun S σ H Q q k => h2 S σ H _ q fun v S1 H1 e1 q1 r1 => g2 S1 σ H1 _ q1 fun S2 H2 e2 q2 => k S2 H2 (e1.trans e2) q2⟩
theorem evr_tup {k1 : Nat} (h : ArR X K E W Γ R es C R') : EvR X K E W Γ R (.Tuple es k1 pos) C R' := by
  obtain ⟨t, h1, h2⟩ := h
  exact ⟨tTup t, fun i => pe_tup (h1 i), fun S σ H Q q k => h2 S σ H _ q k⟩
theorem blk_exprR (h : EvR X K E W Γ R e C R') (hW : ∀ S σ H, SR K E Γ R' S σ H → W (.ref C) none σ H) (hs : ∀ i, swapsWith e none pos.line (X i).env = pure false := by exact fun _ => rfl) : Blk X K E B Γ R (.Expr e pos :: rest) D := by
  obtain ⟨t, h1, h2⟩ := h
  exact ⟨tSeq (tDrop t) _, fun i => pss_cons (ps_expr (h1 i) (hs i)) pss_of_never, fun S σ H b q => h2 S σ H _ q fun S1 H1 e1 q1 => hW S1 σ H1 q1⟩
theorem blk_retR (h : EvR X K E W Γ R e C R') (hW : ∀ S σ H, SR K E Γ R' S σ H → W (.ref C) none σ H) : Blk X K E B Γ R (.Return (some e) pos :: rest) D := by
  obtain ⟨t, h1, h2⟩ := h
  exact ⟨tSeq (tRet t) _, fun i => pss_cons (ps_ret (h1 i)) pss_of_never, fun S σ H b q => h2 S σ H _ q fun S1 H1 e1 q1 => hW S1 σ H1 q1⟩
theorem blk_asgR (F : Fam X P w K mg base A N) (k : Nat) {x : Str} {pos' : Pos} (h : EvR X K E W Γ R e C R') (hW : ∀ S σ H, SR K E Γ R' S σ H → W (.ref C) none σ H) (hi : N[k]? = some x := by rfl) (hx : ∀ i, Loc (X i).env.scope x := by first | exact fun _ => Or.inl rfl | exact fun _ => Or.inr rfl)
    (hs : ∀ i, swapsWith e (some (.Name x pos')) pos.line (X i).env = pure false := by exact fun _ => rfl) (hf : ∀ i, (X i).fn x = true ∨ (X i).env.scope.names.lookup x = some .local := by first | exact fun _ => Or.inl rfl | exact fun _ => Or.inr rfl) : Blk X K E B Γ R (.Assign [.Name x pos'] e pos :: rest) D := by
  obtain ⟨t, h1, h2⟩ := h
  exact ⟨tSeq (tAsg t (gName k)) _, fun i => pss_cons (ps_set (by rw [F.fN i]; exact F.nd) (by rw [F.fN i]; exact hi) (hx i) (h1 i) (hs i) (hf i)) pss_of_never, fun S σ H b q => h2 S σ H _ q fun S1 H1 e1 q1 => hW S1 σ H1 q1⟩
/-! ### try -/
theorem SR.setNone (q : SR K E Γ R S σ H) (k : Nat) : SR K E (Γ.set k none) R S (σ.set k none) H :=
  ⟨q.sub, q.ext, q.fr, q.new, q.own, All2.set (fun s' e => nomatch e) k q.slots⟩
/-- the contexts of a try's body, by what is wished of an exception -/
abbrev XT (X : ι → Cx) (W : WX) : { j : ι × List (Addr × Obj) × (Value → Shared → Prop) // Takes ((X j.1).tr j.2.1 j.2.2) W ∧ PassesOwn (model (X j.1).prog (X j.1).w) (X j.1).A (X j.1).env j.2.2 } → Cx := fun j => (X j.1.1).tr j.1.2.1 j.1.2.2
theorem fam_try (F : Fam X P w K mg base A N) : Fam (XT X W) P w K mg base A N :=
  ⟨fun j => F.fP j.1.1, fun j => F.fw j.1.1, fun j => F.fK j.1.1, fun j => F.fmg j.1.1, fun j => F.fbase j.1.1, fun j => F.fA j.1.1, fun j => F.fN j.1.1, F.nd⟩
theorem tk_try : ∀ j, Takes (XT X W j) W := fun j => j.2.1
/-- the contexts of an except suite -/
abbrev XS (X : ι → Cx) (C a : Addr) : { j : ι × Obj × List (Addr × Obj) // Zc (.ref C) none j.2.1 ∧ ∃ vs, j.2.1.data = .fields vs } → Cx := fun j => (X j.1.1).suite a ((a, j.1.2.1) :: j.1.2.2)
theorem fam_suite (F : Fam X P w K mg base A N) (a : Addr) : Fam (XS X C a) P w K mg base (A.mark (some (.ref a))) N :=
  ⟨fun j => F.fP j.1.1, fun j => F.fw j.1.1, fun j => F.fK j.1.1, fun j => F.fmg j.1.1, fun j => F.fbase j.1.1, fun j => by show (X j.1.1).A.mark _ = _; rw [F.fA j.1.1], fun j => F.fN j.1.1, F.nd⟩
/-- the end of an except suite with a name -/
theorem blk_endS (k : Nat) (hR : R = R' ++ R2') (h : All2 WkS Γ' (Γ.set k none)) (hD : D.nx = fun σ' H' => Pst K E B Γ' R' (σ'.set k none) H') : Blk X K E B Γ R [] D :=
  blk_nil fun S σ H b q => by
    rw [hD]
    exact ⟨S, b, wkD hR h S _ H (q.setNone k)⟩
variable (X) (K) (E) in
/-- a try's body raises C -/
def BodyR (Γ : Slots) (R : List Res) (body : List Stmt) (C : Addr) (R' : List Res) : Prop := ∀ W : WX, ∃ t : TS, (∀ j, PSs (XT X W j) body t) ∧ ∀ S σ H D, SR K E Γ R S σ H → (∀ S' H', Same S S' → SR K E Γ R' S' σ H' → W (.ref C) none σ H') → t D σ H
theorem body_asg (F : Fam X P w K mg base A N) (k : Nat) {x : Str} {pos' : Pos} (h : ∀ W, Fam (XT X W) P w K mg base A N → (∀ j, Takes (XT X W j) W) → EvR (XT X W) K E W Γ R e C R') (hi : N[k]? = some x := by rfl) (hx : ∀ i, Loc (X i).env.scope x := by first | exact fun _ => Or.inl rfl | exact fun _ => Or.inr rfl)
    (hs : ∀ i, swapsWith e (some (.Name x pos')) pos.line (X i).env = pure false := by exact fun _ => rfl) (hf : ∀ i, (X i).fn x = true ∨ (X i).env.scope.names.lookup x = some .local := by first | exact fun _ => Or.inl rfl | exact fun _ => Or.inr rfl) : BodyR X K E Γ R [.Assign [.Name x pos'] e pos] C R' := by
  intro W
  obtain ⟨t, h1, h2⟩ := h W (fam_try F) tk_try
  exact ⟨_, fun j => pss_one (ps_set (by rw [(fam_try (W := W) F).fN j]; exact F.nd) (by rw [(fam_try (W := W) F).fN j]; exact hi) (hx j.1.1) (h1 j) (hs j.1.1) (hf j.1.1)), fun S σ H D q k => h2 S σ H _ q k⟩
theorem body_expr (F : Fam X P w K mg base A N) (h : ∀ W, Fam (XT X W) P w K mg base A N → (∀ j, Takes (XT X W j) W) → EvR (XT X W) K E W Γ R e C R') (hs : ∀ i, swapsWith e none pos.line (X i).env = pure false := by exact fun _ => rfl) : BodyR X K E Γ R [.Expr e pos] C R' := by
  intro W
  obtain ⟨t, h1, h2⟩ := h W (fam_try F) tk_try
  exact ⟨_, fun j => pss_one (ps_expr (h1 j) (hs j.1.1)), fun S σ H D q k => h2 S σ H _ q k⟩
/-- try: .. except x as n: .., the body raises C -/
theorem blk_tryAs (F : Fam X P w K mg base A N) (k : Nat) {x n : Str} {cx : Value} {body suite : List Stmt} {b₀ : Stmt} {np pos' : Pos} (hb : BodyR X K E Γ R body C R1) (hm : mg x = some cx) (hx : PySem.W.exmOne K (.ref C) cx = some true)
    (hsu : ∀ a, Fam (XS X C a) P w K mg base (A.mark (some (.ref a))) N → Blk (XS X C a) K E B (Γ.set k (some (sv (.ref a)))) R1 (b₀ :: suite) { nx := fun σ' H' => Pst K E B Γ' R' (σ'.set k none) H', rt := D.rt, bk := fun σ' H' => D.bk (σ'.set k none) H', ct := fun σ' H' => D.ct (σ'.set k none) H' })
    (hr : Blk X K E B Γ' R' rest D) (hi : N[k]? = some n := by rfl) (hln : ∀ i, (X i).env.kindOf n = some .local := by exact fun _ => rfl)
    (hst : ∀ i, (X i).stack = (X i).env :: (X i).outer := by exact fun _ => rfl) (hf : ∀ i, (X i).env.frame = some (X i).env.locals := by exact fun _ => rfl) (hg : ∀ i, Gl (X i) x := by exact fun _ => rfl) (hdb : (x == ("__debug__" : Str)) = false := by decide) :
    Blk X K E B Γ R (.Try body [.ExceptHandler (some (.Name x np)) (some n) (b₀ :: suite) pos'] [] [] pos :: rest) D := by
  have hb' := fun W => Classical.choose_spec (hb W)
  have hs' := fun a => Classical.choose_spec (hsu a (fam_suite F a))
  obtain ⟨u, g1, g2⟩ := hr
  let ts : Addr → Value → Option Addr → TS := fun a cls d D σ H => (cls = .ref C ∧ d = none) ∧ Classical.choose (hsu a (fam_suite F a)) D σ H
  have hts : ∀ i (a : Addr) (oe : Obj) (cls : Value) (d : Option Addr) (pn : List (Addr × Obj)), Zc cls d oe → (∃ vs, oe.data = .fields vs) → PSs ((X i).suite a ((a, oe) :: pn)) (b₀ :: suite) (ts a cls d) := fun i a oe cls d pn hz hfl =>
    ⟨fun pins s σ H D I ⟨⟨e1, e2⟩, q⟩ => by
      subst e1 e2
      exact ((hs' a).1 ⟨(i, oe, pn), hz, hfl⟩).run pins s σ H D I q⟩
  have hps : ∀ i, PS (X i) (.Try body [.ExceptHandler (some (.Name x np)) (some n) (b₀ :: suite) pos'] [] [] pos) (fun D σ H => Classical.choose (hb (wAs K cx k ts (fun _ _ _ _ => False) D)) D σ H) := fun i => by
    have h := ps_try_as (i := k) (np := np) (pos := pos) (pos' := pos') (tb := fun W => Classical.choose (hb W)) (hst i) (hf i) (by rw [F.fN i]; exact F.nd) (by rw [F.fN i]; exact hi) (hln i) ⟨hg i, hdb, .inl (by rw [F.fmg i]; exact hm)⟩ takes0 (fun W pn xe tk ps => (hb' W).1 ⟨(i, pn, xe), tk, ps⟩) (hts i)
    rw [F.fK i] at h
    exact h
  refine ⟨Evl.tCut _ u, fun i => Evl.pss_cut (hps i) (g1 i), fun S σ H b q => ⟨Pst K E B Γ' R', ?_, fun σ' H' ⟨S2, e2, q2⟩ => g2 S2 σ' H' e2 q2⟩⟩
  refine (hb' _).2 S σ H _ q fun S' H' e' q' => ⟨true, hx, fun _ a ha => ⟨⟨rfl, rfl⟩, ?_⟩, fun z => nomatch z⟩
  exact (hs' a).2 S' _ H' (b.trans e') (q'.setSlot k rfl)
/-- try: .. except x: .., the body raises C -/
theorem blk_tryOnly (F : Fam X P w K mg base A N) {x : Str} {cx : Value} {body suite : List Stmt} {b₀ : Stmt} {np pos' : Pos} (hb : BodyR X K E Γ R body C R1) (hm : mg x = some cx) (hx : PySem.W.exmOne K (.ref C) cx = some true)
    (hsu : ∀ a, Fam (XS X C a) P w K mg base (A.mark (some (.ref a))) N → Blk (XS X C a) K E B Γ R1 (b₀ :: suite) { nx := Pst K E B Γ' R', rt := D.rt, bk := D.bk, ct := D.ct })
    (hr : Blk X K E B Γ' R' rest D)
    (hst : ∀ i, (X i).stack = (X i).env :: (X i).outer := by exact fun _ => rfl) (hf : ∀ i, (X i).env.frame = some (X i).env.locals := by exact fun _ => rfl) (hg : ∀ i, Gl (X i) x := by exact fun _ => rfl) (hdb : (x == ("__debug__" : Str)) = false := by decide) :
    Blk X K E B Γ R (.Try body [.ExceptHandler (some (.Name x np)) none (b₀ :: suite) pos'] [] [] pos :: rest) D := by
  have hb' := fun W => Classical.choose_spec (hb W)
  have hs' := fun a => Classical.choose_spec (hsu a (fam_suite F a))
  obtain ⟨u, g1, g2⟩ := hr
  let ts : Addr → Value → Option Addr → TS := fun a cls d D σ H => (cls = .ref C ∧ d = none) ∧ Classical.choose (hsu a (fam_suite F a)) D σ H
  have hts : ∀ i (a : Addr) (oe : Obj) (cls : Value) (d : Option Addr) (pn : List (Addr × Obj)), Zc cls d oe → (∃ vs, oe.data = .fields vs) → PSs ((X i).suite a ((a, oe) :: pn)) (b₀ :: suite) (ts a cls d) := fun i a oe cls d pn hz hfl =>
    ⟨fun pins s σ H D I ⟨⟨e1, e2⟩, q⟩ => by
      subst e1 e2
      exact ((hs' a).1 ⟨(i, oe, pn), hz, hfl⟩).run pins s σ H D I q⟩
  have hps : ∀ i, PS (X i) (.Try body [.ExceptHandler (some (.Name x np)) none (b₀ :: suite) pos'] [] [] pos) (fun D σ H => Classical.choose (hb (wOnly K cx ts (fun _ _ _ _ => False) D)) D σ H) := fun i => by
    have h := ps_try_only (np := np) (pos := pos) (pos' := pos') (tb := fun W => Classical.choose (hb W)) (hst i) (hf i) ⟨hg i, hdb, .inl (by rw [F.fmg i]; exact hm)⟩ takes0 (fun W pn xe tk ps => (hb' W).1 ⟨(i, pn, xe), tk, ps⟩) (hts i)
    rw [F.fK i] at h
    exact h
  refine ⟨Evl.tCut _ u, fun i => Evl.pss_cut (hps i) (g1 i), fun S σ H b q => ⟨Pst K E B Γ' R', ?_, fun σ' H' ⟨S2, e2, q2⟩ => g2 S2 σ' H' e2 q2⟩⟩
  refine (hb' _).2 S σ H _ q fun S' H' e' q' => ⟨true, hx, fun _ a ha => ⟨⟨rfl, rfl⟩, ?_⟩, fun z => nomatch z⟩
  exact (hs' a).2 S' _ H' (b.trans e') q'
/-- a try whose body raises nothing -/
theorem blk_tryNo {body : List Stmt} {h₀ : ExceptHandler} {hs : List ExceptHandler} (hb : Blk X K E B Γ R body { nx := Pst K E B Γ' R', rt := D.rt, bk := D.bk, ct := D.ct }) (hr : Blk X K E B Γ' R' rest D) (hn : ∀ i e s, ¬ (X i).xe e s := by exact fun _ _ _ h => h) :
    Blk X K E B Γ R (.Try body (h₀ :: hs) [] [] pos :: rest) D := by
  obtain ⟨t, h1, h2⟩ := hb
  obtain ⟨u, g1, g2⟩ := hr
  refine ⟨Evl.tCut (tThru t tNext) u, fun i => Evl.pss_cut (ps_try_never (hn i) (h1 i) pss_nil) (g1 i), fun S σ H b q => ⟨Pst K E B Γ' R', ?_, fun σ' H' ⟨S2, e2, q2⟩ => g2 S2 σ' H' e2 q2⟩⟩
  exact h2 S σ H b q
end
end SL

/-! calls to which cells of one's own are handed -/
namespace SL
open PySem PySem.Spec PyProof.Rows L2
theorem all2_app_l {α β : Type} {F : α → β → Prop} : ∀ {as as' : List α} {bs : List β}, All2 F (as ++ as') bs → ∃ b1 b2, bs = b1 ++ b2 ∧ All2 F as b1 ∧ All2 F as' b2
  | [], _, bs, h => ⟨[], bs, rfl, .nil, h⟩
  | a :: as, as', _, .cons p r => by
    obtain ⟨b1, b2, e, h1, h2⟩ := all2_app_l (as := as) r
    exact ⟨_ :: b1, b2, by rw [e]; rfl, .cons p h1, h2⟩
section
variable {ι : Type} {X : ι → Cx} {K : PySem.W.Frag} {E : Ent} {B : Hp} {Γ Γ' : Slots} {R R' R1 R2' R3 Ra Rb Rs : List Res} {a b c e o : Expr} {es : List Expr} {pos p' apos : Pos} {s s1 s2 s3 : Sl} {ss : List Sl}
  {P : Program} {w : World} {mg : Str → Option Value} {base : Heap} {A : Around} {N ps : List Str} {rest sts : List Stmt} {D : Ends} {S S' H H' : Hp} {σ σ' : L2.St} {f : Str} {C : Addr} {W : WX}
theorem SR.give (q : SR K E Γ (Ra ++ Rs ++ Rb) S σ H) : ∃ Os, Own K S H Rs Os ∧ ∀ (Rn : List Res) (S' H' : Hp) (Os' : List Hp), (∀ a o, H a = some o → ¬ InOs Os a → H' a = some o) → Same S' H' → Same S S' → (∀ a, S' a ≠ none → S a ≠ none ∨ H a = none ∨ InOs Os a) →
    Own K S' H' Rn Os' → (∀ O ∈ Os', ∀ a, O a ≠ none → InOs Os a ∨ H a = none) → SR K E Γ (Ra ++ Rn ++ Rb) S' σ H' := by
  obtain ⟨Oall, ⟨h1, h2⟩, h3⟩ := q.own
  obtain ⟨Oab, Ob, rfl, h1ab, h1b⟩ := all2_app_l h1
  obtain ⟨Oa, Os, rfl, h1a, h1s⟩ := all2_app_l h1ab
  obtain ⟨d12, d3, d4⟩ := List.pairwise_append.mp h2
  obtain ⟨d1, d2, d5⟩ := List.pairwise_append.mp d12
  refine ⟨Os, ⟨h1s, d2⟩, fun Rn S' H' On hfr hsub hext hnew hown hO => ?_⟩
  have inA : ∀ x, InOs Os x → E.A0 x ∨ E.H0 x = none := fun x ⟨O, hO, hx⟩ => h3 O (by simp [hO]) x hx
  have freshA : ∀ x, H x = none → E.A0 x ∨ E.H0 x = none := fun x z => by
    by_cases n : E.A0 x
    · exact .inl n
    · cases e0 : E.H0 x with
      | none => exact .inr rfl
      | some u => rw [q.fr x u e0 n] at z; cases z
  -- what stands beside
  have beside : ∀ O, (∀ O' ∈ Os, ∀ a, O a ≠ none → O' a = none) → Same O H → (∀ a, O a ≠ none → S a = none) → Same O H' ∧ ∀ a, O a ≠ none → S' a = none := fun O hdis hsame hS => by
    have nin : ∀ x, O x ≠ none → ¬ InOs Os x := fun x hx ⟨O', hO', hx'⟩ => hx' (hdis O' hO' x hx)
    refine ⟨fun x u e => hfr x u (hsame x u e) (nin x (by rw [e]; exact fun z => nomatch z)), fun x hx => ?_⟩
    cases e2 : S' x with
    | none => rfl
    | some u =>
      rcases hnew x (by rw [e2]; exact fun z => nomatch z) with z | z | z
      · exact absurd (hS x hx) z
      · cases e3 : O x with
        | none => exact absurd e3 hx
        | some u' => rw [hsame x u' e3] at z; cases z
      · exact absurd z (nin x hx)
  have apart : ∀ O O', (∀ O' ∈ Os, ∀ a, O a ≠ none → O' a = none) → Same O H → O' ∈ On → ∀ a, O a ≠ none → O' a = none := fun O O' hdis hsame hO' x hx => by
    cases e2 : O' x with
    | none => rfl
    | some u =>
      rcases hO O' hO' x (by rw [e2]; exact fun z => nomatch z) with ⟨O2, hO2, z⟩ | z
      · exact absurd (hdis O2 hO2 x hx) z
      · cases e3 : O x with
        | none => exact absurd e3 hx
        | some u' => rw [hsame x u' e3] at z; cases z
  have disA : ∀ O ∈ Oa, ∀ O' ∈ Os, ∀ a, O a ≠ none → O' a = none := fun O hO O' hO' => d5 O hO O' hO'
  have disB : ∀ O ∈ Ob, ∀ O' ∈ Os, ∀ a, O a ≠ none → O' a = none := fun O hO O' hO' => disj_symm (d4 O' (by simp [hO']) O hO)
  refine ⟨hsub, q.ext.trans hext, fun x u e n => hfr x u (q.fr x u e n) (fun z => by rcases inA x z with z | z; exact n z; rw [z] at e; cases e), fun x hx => ?_, ⟨Oa ++ On ++ Ob, ⟨?_, ?_⟩, ?_⟩, slots_mono hext q.slots⟩
  · rcases hnew x hx with z | z | z
    · exact q.new x z
    · rcases freshA x z with z | z
      · exact .inr (.inr z)
      · exact .inr (.inl z)
    · rcases inA x z with z | z
      · exact .inr (.inr z)
      · exact .inr (.inl z)
  · refine All2.app (All2.app ?_ hown.all) ?_
    · have : ∀ {Rx : List Res} {Ox : List Hp}, All2 (fun (ρ : Res) O => ρ.r K S O ∧ Same O H ∧ ∀ a, O a ≠ none → S a = none) Rx Ox → (∀ O ∈ Ox, ∀ O' ∈ Os, ∀ a, O a ≠ none → O' a = none) → All2 (fun (ρ : Res) O => ρ.r K S' O ∧ Same O H' ∧ ∀ a, O a ≠ none → S' a = none) Rx Ox := by
        intro Rx Ox hh
        induction hh with
        | nil => intro _; exact .nil
        | cons p _ ih => intro hd; exact .cons ⟨Res.mono _ hext p.1, beside _ (hd _ (List.mem_cons_self ..)) p.2.1 p.2.2⟩ (ih fun O hO => hd O (List.mem_cons_of_mem _ hO))
      exact this h1a disA
    · have : ∀ {Rx : List Res} {Ox : List Hp}, All2 (fun (ρ : Res) O => ρ.r K S O ∧ Same O H ∧ ∀ a, O a ≠ none → S a = none) Rx Ox → (∀ O ∈ Ox, ∀ O' ∈ Os, ∀ a, O a ≠ none → O' a = none) → All2 (fun (ρ : Res) O => ρ.r K S' O ∧ Same O H' ∧ ∀ a, O a ≠ none → S' a = none) Rx Ox := by
        intro Rx Ox hh
        induction hh with
        | nil => intro _; exact .nil
        | cons p _ ih => intro hd; exact .cons ⟨Res.mono _ hext p.1, beside _ (hd _ (List.mem_cons_self ..)) p.2.1 p.2.2⟩ (ih fun O hO => hd O (List.mem_cons_of_mem _ hO))
      exact this h1b disB
  · have sA : ∀ O ∈ Oa, Same O H := fun O hO => let ⟨_, _, g⟩ := all2_mem h1a hO; g.2.1
    have sB : ∀ O ∈ Ob, Same O H := fun O hO => let ⟨_, _, g⟩ := all2_mem h1b hO; g.2.1
    refine List.pairwise_append.mpr ⟨List.pairwise_append.mpr ⟨d1, hown.dis, fun O hO' O' hO'' => apart O O' (disA O hO') (sA O hO') hO''⟩, d3, fun O hO' O' hO'' => ?_⟩
    rcases List.mem_append.mp hO' with z | z
    · exact d4 O (by simp [z]) O' hO''
    · exact disj_symm (apart O' O (disB O' hO'') (sB O' hO'') z)
  · intro O hO' x hx
    rcases List.mem_append.mp hO' with z | z
    · rcases List.mem_append.mp z with z | z
      · exact h3 O (by simp [z]) x hx
      · rcases hO O z x hx with z | z
        · exact inA x z
        · exact freshA x z
    · exact h3 O (by simp [z]) x hx
/-- f(e, ..), cells handed -/
theorem ev_callG {θ : Type} {ν : θ → Type} {pre : θ → Prop} {as : θ → List Sl} {Rs : θ → List Res} {Rn : ∀ i, ν i → List Res} {res : ∀ i, ν i → Sl} (F : Fam X P w K mg base A N) (C : Cal P w K mg base A f ps (spJ K pre as Rs Rn res)) (i : θ) (Ra Rb : List Res) (ha : ArJ X K E Γ R (e :: es) R1 (as i)) (hR : R1 = Ra ++ Rs i ++ Rb) (hpre : pre i)
    (hg : ∀ i, Gl (X i) f := by exact fun _ => rfl) (he : ∀ i, starEach (e :: es) (X i).env = (false, eval e (X i).env) :: starEach es (X i).env := by exact fun _ => rfl) (hpl : ∀ i, (backTo pos (starEach es (X i).env)).any (·.1) = false := by exact fun _ => rfl) (hdb : (f == ("__debug__" : Str)) = false := by decide) :
    EvN X K E Γ R (.Call (.Name f p') (e :: es) [] pos) (fun n => Ra ++ Rn i n ++ Rb) (res i) := by
  obtain ⟨CX, k, fa, fd, hF, hr, hm, hk, hb, hx⟩ := C.ex
  obtain ⟨t, a1, a2⟩ := ha
  subst hR
  refine ⟨tCall (spJ K pre as Rs Rn res) [] E0 t, fun j => ?_, fun S σ H Q q kk => a2 S σ H _ q fun vs S1 H1 e1 q1 r1 => ?_⟩
  · refine pe_call (CX := CX) (k := k) (f := fa) (fd := fd) (ps := ps) (ds := []) ?_ (by rw [F.fA j]; exact hr) (hg j) (by rw [F.fmg j]; exact hm) (by rw [F.fK j]; exact hk) (by rw [F.fK j]; exact hb) .nil (hx _ (F.fP j) (F.fw j)) (a1 j) hdb (he j) (hpl j)
    rw [F.fP j, F.fw j, F.fK j, F.fmg j, F.fbase j]
    exact hF
  · rw [List.append_nil]
    obtain ⟨Os, hOs, hgive⟩ := q1.give
    exact ⟨i, S1, Os, hpre, q1.sub, r1, hOs, fun n v S' H' Os' hfr hsub hext hnew hown hO hres => kk n v S' H' (e1.trans hext) (hgive _ S' H' Os' hfr hsub hext hnew hown hO) hres⟩
/-- a def that may raise, to be called -/
structure CalR (P : Program) (w : World) (K : PySem.W.Frag) (mg : Str → Option Value) (base : Heap) (A : Around) (f : Str) (ps : List Str) (sp : Sp) : Prop where
  ex : ∃ (k : Nat) (fa : Addr) (fd : FuncData), FnOk P w K mg base (L2.CX P w) k fa fd ps sp ∧ Room k A ∧ mg f = some (.ref fa) ∧ PySem.W.keepIn K (.ref fa) = true ∧ Binds K fd ps []
structure DefR (P : Program) (w : World) (K : PySem.W.Frag) (mg : Str → Option Value) (base : Heap) (f : Str) (ps : List Str) (k : Nat) (sp : Sp) : Prop where
  ex : ∃ (fa : Addr) (fd : FuncData), FnOk P w K mg base (L2.CX P w) k fa fd ps sp ∧ mg f = some (.ref fa) ∧ PySem.W.keepIn K (.ref fa) = true ∧ Binds K fd ps []
theorem DefR.cal {k m : Nat} {sp : Sp} (d : DefR P w K mg base f ps k sp) (hr : Room m A) (hk : k ≤ m := by decide) : CalR P w K mg base A f ps sp :=
  let ⟨fa, fd, h1, h2, h3, h4⟩ := d.ex; ⟨k, fa, fd, h1, hr.mono hk, h2, h3, h4⟩
theorem evr_callG {θ : Type} {pre : θ → Prop} {as : θ → List Sl} {Rs Rn : θ → List Res} (F : Fam X P w K mg base A N) (Cl : CalR P w K mg base A f ps (spR K pre as Rs C Rn)) (tk : ∀ i, Takes (X i) W) (i : θ) (Ra Rb : List Res) (ha : ArJ X K E Γ R (e :: es) R1 (as i)) (hR : R1 = Ra ++ Rs i ++ Rb) (hpre : pre i)
    (hg : ∀ i, Gl (X i) f := by exact fun _ => rfl) (he : ∀ i, starEach (e :: es) (X i).env = (false, eval e (X i).env) :: starEach es (X i).env := by exact fun _ => rfl) (hpl : ∀ i, (backTo pos (starEach es (X i).env)).any (·.1) = false := by exact fun _ => rfl) (hdb : (f == ("__debug__" : Str)) = false := by decide) :
    EvR X K E W Γ R (.Call (.Name f p') (e :: es) [] pos) C (Ra ++ Rn i ++ Rb) := by
  obtain ⟨k, fa, fd, hF, hr, hm, hk, hb⟩ := Cl.ex
  obtain ⟨t, a1, a2⟩ := ha
  subst hR
  refine ⟨tCallS (spR K pre as Rs C Rn) (WE W) t, fun j => ?_, fun S σ H Q q kk => a2 S σ H _ q fun vs S1 H1 e1 q1 r1 => ?_⟩
  · refine pe_callS (CX := L2.CX (X j).prog (X j).w) (k := k) (f := fa) (fd := fd) (ps := ps) ?_ (by rw [F.fA j]; exact hr) (hg j) (by rw [F.fmg j]; exact hm) (by rw [F.fK j]; exact hk) (by rw [F.fK j]; exact hb) (fun σ => passAt (tk j) σ) (a1 j) hdb (he j) (hpl j)
    rw [F.fP j, F.fw j, F.fK j, F.fmg j, F.fbase j]
    exact hF
  · obtain ⟨Os, hOs, hgive⟩ := q1.give
    exact ⟨i, S1, Os, hpre, q1.sub, r1, hOs, fun S' H' Os' hfr hsub hext hnew hown hO => kk S' H' (e1.trans hext) (hgive _ S' H' Os' hfr hsub hext hnew hown hO)⟩
end
end SL
namespace L2
open PySem PySem.Spec PyProof.Rows
/-- isinstance(e, (c1, c2, ..)), e the exception that the suite holds -/
def rIsET (K : PySem.W.Frag) (D a : Addr) : List V → Hp → VK → Prop := fun xs H Q => ∃ (tp : Addr) (cs : List V) (us : List Value) (b : Bool), xs = [.ref a, .ref tp] ∧ SqT K H tp cs ∧ Paired ClsV cs us ∧ PySem.W.kitAny K (.ref D) us = some b ∧ Q (.bl b) H
theorem call_isET {X : Cx} {a D : Addr} {oe : Obj} {pn : List (Addr × Obj)} (C : ExcC X.K D) (hz : Zc (.ref D) none oe) (hf : ∃ vs, oe.data = .fields vs) : CallR (X.suite a ((a, oe) :: pn)) (.builtin "isinstance") (rIsET X.K D a) := by
  intro pins s σ H xs us Q I r h
  obtain ⟨tp, cs, ws, b, rfl, hT, k, e, q⟩ := h
  obtain ⟨u1, u2, rfl, r1, r2⟩ := vals2 r
  cases (show u1 = Value.ref a from r1)
  cases (show u2 = Value.ref tp from r2)
  obtain ⟨hget, _⟩ := I.pin (a, oe) (List.mem_append.mpr (.inl List.mem_cons_self))
  obtain ⟨vs, hv⟩ := hf
  have J : PySem.W.InstAt s.heap a oe D none := by
    obtain ⟨oc, od, oda, osl⟩ := oe
    obtain ⟨h1, h2⟩ := hz
    dsimp only at h1 h2 hv
    subst h1 h2 hv
    exact ⟨hget, rfl, rfl, trivial⟩
  obtain ⟨its, rv, ⟨o, h1, h2, n, h3⟩, _⟩ := I.tuple hT
  have e3 := ClsV.all k rv
  subst e3
  obtain ⟨oc, od, dt, sl⟩ := o
  simp only at h2 h3
  subst h2 h3
  exact PySem.W.kia_tup (PySem.W.handS_kitx_exc C.hg C.hk C.hs C.hd C.ha C.hn C.ht C.hm) I.kIn J h1 e (fun z => nomatch z) fun tk => ⟨.bl b, H, I.kept (t' := tk) fun _ _ z => z, rfl, q⟩
end L2
namespace SL
open PySem PySem.Spec PyProof.Rows L2
section
variable {ι : Type} {X : ι → Cx} {K : PySem.W.Frag} {E : Ent} {B : Hp} {Γ Γ' : Slots} {R R' R1 : List Res} {e c : Expr} {es : List Expr} {pos p' : Pos} {s s1 s2 s3 : Sl}
  {P : Program} {w : World} {mg : Str → Option Value} {base : Heap} {A : Around} {N : List Str} {C a : Addr} {k : Bool}
/-- isinstance(e, c), e the exception that the suite holds -/
theorem ev_isE (F : Fam (XS X C a) P w K mg base A N) (T : ExcC K C) (hm : mg "isinstance" = none) {v : V} {u : Value} (he : EvJ (XS X C a) K E Γ R e R (sv (.ref a))) (hc : EvJ (XS X C a) K E Γ R c R (sv v)) (hv : ClsV v u) (hk : PySem.W.kitOne K (.ref C) u = some k)
    (hg : ∀ i, Gl (XS X C a i) "isinstance" := by exact fun _ => rfl) (hs1 : ∀ i, starEach [e, c] (XS X C a i).env = (false, eval e (XS X C a i).env) :: starEach [c] (XS X C a i).env := by exact fun _ => rfl)
    (hs2 : ∀ i, starEach [c] (XS X C a i).env = (false, eval c (XS X C a i).env) :: starEach [] (XS X C a i).env := by exact fun _ => rfl) (hpl : ∀ i, (backTo pos (starEach [c] (XS X C a i).env)).any (·.1) = false := by exact fun _ => rfl) :
    EvJ (XS X C a) K E Γ R (.Call (.Name "isinstance" p') [e, c] [] pos) R (dB k) := by
  refine ev_callB F hm PyProof.Rows.boot_isinstance (ar_cons he (ar_cons hc ar_nil hs2) hs1) ⟨rIsE K C a, fun n => ?_, fun Γ S σ H vs Q q r k' => ?_⟩ hg hs1 hpl
  · have := call_isE (X := X n.1.1) (a := a) (pn := n.1.2.2) (by rw [show (X n.1.1).K = K from F.fK n]; exact T) n.2.1 n.2.2
    rw [show (X n.1.1).K = K from F.fK n] at this
    exact this
  · obtain ⟨x, y, rfl, r1, r2⟩ := all2_two r
    cases (show x = .ref a from r1)
    cases (show y = v from r2)
    exact ⟨v, u, k, rfl, fun u' hu => hv.eq hu, hk, k' _ S H (Same.refl _) q rfl⟩
theorem all2_svs {S : Hp} : ∀ {vs ws : List V}, All2 (fun (s : Sl) v => s.r K S v) (vs.map sv) ws → ws = vs
  | [], _, .nil => rfl
  | v :: vs, _, .cons a b => by
    cases (show _ = v from a)
    rw [all2_svs b]
/-- isinstance(e, (c1, ..)) -/
theorem ev_isET (F : Fam (XS X C a) P w K mg base A N) (T : ExcC K C) (hm : mg "isinstance" = none) {vs : List V} {us : List Value} (he : EvJ (XS X C a) K E Γ R e R (sv (.ref a))) (hc : EvJ (XS X C a) K E Γ R c R (stup (vs.map sv))) (hv : Paired ClsV vs us) (hk : PySem.W.kitAny K (.ref C) us = some k)
    (hg : ∀ i, Gl (XS X C a i) "isinstance" := by exact fun _ => rfl) (hs1 : ∀ i, starEach [e, c] (XS X C a i).env = (false, eval e (XS X C a i).env) :: starEach [c] (XS X C a i).env := by exact fun _ => rfl)
    (hs2 : ∀ i, starEach [c] (XS X C a i).env = (false, eval c (XS X C a i).env) :: starEach [] (XS X C a i).env := by exact fun _ => rfl) (hpl : ∀ i, (backTo pos (starEach [c] (XS X C a i).env)).any (·.1) = false := by exact fun _ => rfl) :
    EvJ (XS X C a) K E Γ R (.Call (.Name "isinstance" p') [e, c] [] pos) R (dB k) := by
  refine ev_callB F hm PyProof.Rows.boot_isinstance (ar_cons he (ar_cons hc ar_nil hs2) hs1) ⟨rIsET K C a, fun n => ?_, fun Γ S σ H ws Q q r k' => ?_⟩ hg hs1 hpl
  · have := call_isET (X := X n.1.1) (a := a) (pn := n.1.2.2) (by rw [show (X n.1.1).K = K from F.fK n]; exact T) n.2.1 n.2.2
    rw [show (X n.1.1).K = K from F.fK n] at this
    exact this
  · obtain ⟨x, y, rfl, r1, r2⟩ := all2_two r
    cases (show x = .ref a from r1)
    obtain ⟨p, ws, rfl, h1, h2⟩ := r2
    have e := all2_svs h2
    subst e
    exact ⟨p, ws, us, k, rfl, same_t q.sub h1, hv, hk, k' _ S H (Same.refl _) q rfl⟩
end
end SL

/-! lists of new lists of one's own; min of a list of data -/
namespace SL
open PySem PySem.Spec PyProof.Rows L2
/-- min(xs) of data -/
def rMinD (K : PySem.W.Frag) : List V → Hp → VK → Prop := fun vs H Q => ∃ (a : Addr) (xs : List V) (d : PyData) (ds : List PyData) (D : V → PyData → Prop), vs = [.ref a] ∧ SqL K H a xs ∧ All2 D xs (d :: ds) ∧ (∀ x d, D x d → Dp K H x d) ∧ PySem.W.AlikeAll (d :: ds) ∧ PyData.depthAll (d :: ds) ≤ 32 ∧
  ∀ x, D x (PySem.W.minD d ds) → Q x H
theorem cr_minD {X : Cx} (hu : X.A.units + 64 < cLine) (hcm : X.calm = true) : CallR X (.builtin "min") (rMinD X.K) := by
  intro pins s σ H vs us Q I r h
  obtain ⟨a, xs, d, ds, D, rfl, hs, hx, hD, hal, hz, q⟩ := h
  obtain ⟨its, rv, hl, hlen⟩ := I.list hs
  obtain ⟨u, rfl, ru⟩ := vals1 r
  obtain rfl : u = Value.ref a := ru
  have hreads : ∀ {xs : List V} {es : List PyData} {ws : List Value}, All2 D xs es → Vals xs ws → ∃ as, ReadsAll s.heap ws es as := by
    intro xs es ws h1 h2
    induction h1 generalizing ws with
    | nil => cases h2; exact ⟨_, .nil⟩
    | cons p t ih =>
      cases h2 with
      | cons r rs =>
        obtain ⟨as, g1⟩ := ih rs
        obtain ⟨bs, g2⟩ := Dp.reads I _ _ _ (hD _ _ p) r
        exact ⟨_, .cons g2 g1⟩
  obtain ⟨as, hr⟩ := hreads hx rv
  refine PySem.W.min_list_data (I.ok.hd hcm) hl.isList (by simpa using hr) hal (by omega) fun i v h' tk bs hi hv hkp => ?_
  have hi' : its[i]? = some v := by simpa using hi
  obtain ⟨x, hxi, rx⟩ : ∃ x, xs[i]? = some x ∧ RelV x v := by
    have : ∀ {xs : List V} {ws : List Value} {i : Nat}, Vals xs ws → ws[i]? = some v → ∃ x, xs[i]? = some x ∧ RelV x v := by
      intro xs ws i h1
      induction h1 generalizing i with
      | nil => intro h; simp at h
      | cons r rs ih =>
        intro h
        cases i with
        | zero => simp at h; subst h; exact ⟨_, rfl, r⟩
        | succ i => obtain ⟨x, g1, g2⟩ := ih (i := i) (by simpa using h); exact ⟨x, by simpa using g1, g2⟩
    exact this rv hi'
  obtain ⟨e, he1, he2⟩ := hx.get hxi
  obtain ⟨cs, hc⟩ := Dp.reads I _ _ _ (hD _ _ he2) rx
  have hc' := PySem.W.reads_keeps hkp hc
  have hee : e = PySem.W.minD d ds := (Reads.unique hc' _ _ hv).1
  subst hee
  exact ⟨x, H, I.kept (t' := tk) fun b o e => hkp b o e, rx, q x he2⟩
section
variable {ι : Type} {X : ι → Cx} {K : PySem.W.Frag} {E : Ent} {B : Hp} {Γ Γ' : Slots} {R R' R1 R2' R3 : List Res} {a b c e o : Expr} {es : List Expr} {pos p' apos : Pos} {s s1 s2 s3 : Sl}
  {P : Program} {w : World} {mg : Str → Option Value} {base : Heap} {A : Around} {N : List Str} {rest sts : List Stmt} {D : Ends} {S S' H H' : Hp} {σ σ' : L2.St} {f : Str} {ps : List Str}
theorem cl_minD {k : Nat} (F : Fam X P w K mg base A N) (hr : Room k A) {d : PyData} {ds : List PyData} (h : LV K R s1 (d :: ds)) (hal : PySem.W.AlikeAll (d :: ds)) (hd : PyData.depthAll (d :: ds) ≤ 32) (hcm : ∀ i, (X i).calm = true := by exact fun _ => rfl) : ClJ X K E (.builtin "min") R [s1] (sd (PySem.W.minD d ds)) :=
  ⟨rMinD K, fun n => by rw [← F.fK n]; exact cr_minD (by rw [F.fA n]; exact hr.units) (hcm n), fun Γ S σ H vs Q q r k => by
    obtain ⟨v, rfl, r1⟩ := all2_one r
    obtain ⟨p, us, rfl, h1, h2⟩ := h E Γ S σ H v q r1
    exact ⟨p, us, d, ds, fun v d => Da K S v d, rfl, SqL.of h1, daAll_all2 h2, fun x d hx => da_dp (da_same q.sub hx), hal, hd, fun x hx => k x S H (Same.refl _) q hx⟩⟩
/-! ### less said of what is one's own -/
theorem SR.impR (q : SR K E Γ R S σ H) (h : All2 (fun (ρ ρ' : Res) => ∀ K S O, ρ.r K S O → ρ'.r K S O) R R') : SR K E Γ R' S σ H := by
  obtain ⟨Os, ⟨h1, h2⟩, h3⟩ := q.own
  refine ⟨q.sub, q.ext, q.fr, q.new, ⟨Os, ⟨?_, h2⟩, h3⟩, q.slots⟩
  clear h2 h3 q
  induction h generalizing Os with
  | nil => cases h1; exact .nil
  | cons p _ ih =>
    cases h1 with
    | cons a b => exact .cons ⟨p _ _ _ a.1, a.2⟩ (ih _ b)
theorem blk_impR (R' : List Res) (h : All2 (fun (ρ ρ' : Res) => ∀ K S O, ρ.r K S O → ρ'.r K S O) R R') (hr : Blk X K E B Γ R' sts D) : Blk X K E B Γ R sts D := by
  obtain ⟨t, h1, h2⟩ := hr
  exact ⟨t, h1, fun S σ H b q => h2 S σ H b (q.impR h)⟩
/-- some list at p -/
def rLa (p : Addr) : Res := ⟨fun _ _ O => ∃ vs, O = hOne p (.lst vs), fun _ h => h⟩
theorem imp_la {p : Addr} {ds : List PyData} : ∀ K S O, (rL p ds).r K S O → (rLa p).r K S O := fun K S O ⟨vs, h, _⟩ => ⟨vs, h⟩
theorem ev_clearA (F : Fam X P w K mg base A N) (k : Nat) {p : Addr} {apos : Pos} (ho : EvJ X K E Γ R o R (sv (.ref p))) (hk : R[k]? = some (rLa p))
    (hbase : ∀ i, attributeBase o "clear" (X i).env (eval o (X i).env) = eval o (X i).env := by exact fun _ => rfl)
    (hline : (apos.endLine == pos.line) = true := by rfl) :
    EvJ X K E Γ R (.Call (.Attribute o "clear" apos) [] [] pos) R dN := by
  have hset : R.set k (rLa p) = R := by
    obtain ⟨h1, h2⟩ := List.getElem?_eq_some_iff.mp hk
    rw [← h2, List.set_getElem_self]
  have hcell : ∀ {Γ S σ H}, SR K E Γ R S σ H → ∃ vs, H p = some (.lst vs) := fun q => by
    obtain ⟨O, ⟨vs, e⟩, h⟩ := q.res k hk
    subst e
    exact ⟨vs, h p _ hOne_same⟩
  refine ev_mt0 F PySem.F.plainAttrs_list PySem.F.slot_list_clear PySem.F.type_list_clear ho ⟨rClear, fun _ => mt_clear, fun Γ S σ H x q r => ?_, fun Γ S σ H x xs Q q r1 r2 k' => ?_⟩ hbase hline
  · cases (show x = .ref p from r)
    obtain ⟨vs, h⟩ := hcell q
    exact .inl ⟨rfl, _, SqL.of h⟩
  · cases r2
    cases (show x = .ref p from r1)
    obtain ⟨vs, c1⟩ := hcell q
    refine ⟨p, vs, rfl, rfl, c1, k' _ S _ (Same.refl _) ?_ rfl⟩
    have := q.put (o' := .lst []) (ρ' := rLa p) k hk (fun O ⟨vs, e⟩ => ⟨_, e⟩) ⟨[], rfl⟩
    rw [hset] at this
    exact this
/-- one's own list of values that stays as it is -/
theorem it_mineS (F : Fam X P w K mg base A N) {tg : Expr} {p : Addr} {ss : List Sl} (h : EvJ X K E Γ R e R1 (sv (.ref p))) (m : Nat) (hm : R1[m]? = some (rLs p ss)) : ItJ X K E Γ R tg e R1 ss (fun R' => R'[m]? = some (rLs p ss)) := by
  obtain ⟨t, a1, a2⟩ := h
  have hcell : ∀ {R : List Res} {Γ S σ H}, R[m]? = some (rLs p ss) → SR K E Γ R S σ H → ∃ vs, H p = some (.lst vs) ∧ All2 (fun (s : Sl) v => s.r K S v) ss vs := fun hm q => by
    obtain ⟨O, ⟨vs, e, h1⟩, h⟩ := q.res m hm
    subst e
    exact ⟨vs, h p _ hOne_same, h1⟩
  refine ⟨iList K t, fun i => by rw [← F.fK i]; exact pi_list (a1 i), fun S σ H Rk q k => a2 S σ H _ q fun v S1 H1 e1 q1 r1 => ?_⟩
  cases (show v = .ref p from r1)
  obtain ⟨vs, h1, h2⟩ := hcell hm q1
  refine ⟨p, rfl, ⟨vs, SqL.of h1⟩, k _ S1 H1 e1 q1 fun n Γ' R' S' σ' H' e' q' hC => ?_⟩
  obtain ⟨us, g1, g2⟩ := hcell hC q'
  refine ⟨fun s hs => ?_, fun hn => ⟨us, SqL.of g1, by rw [← g2.len]; exact hn⟩⟩
  obtain ⟨x, hx, hd⟩ := g2.get hs
  refine ⟨⟨us, x, SqL.of g1, hx⟩, fun y H'' hy => ?_⟩
  obtain ⟨rfl, hy⟩ := hy
  have := hy us (SqL.of g1)
  rw [hx] at this
  cases this
  exact ⟨S', Same.refl _, q', hd⟩
/-! ### a comprehension of new lists -/
def LcN {ν : Type} (X : ι → Cx) (K : PySem.W.Frag) (E : Ent) (Γ : Slots) (R : List Res) (e : Expr) (R' : ν → List Res) (s : ν → Sl) : Prop :=
  ∃ t : TE, (∀ i, PE (X i) e t) ∧ (∀ i (k : Nat) (y : Str) (py spos : Pos), (X i).N[k]? = some y → (X i).env.scope.names.lookup y = some .local → swapsWith e (some (.Name y py)) spos.line (X i).env = pure true → PS (X i) (.Assign [.Name y py] e spos) (tAsg t (gName k))) ∧
    ∀ S σ H (Q : VK), SR K E Γ R S σ H → (∀ n, Kont K E Γ (R' n) σ S (s n) Q) → t σ H Q
/-- the list of the lists at ps -/
abbrev rRefs (D : Addr) (ps : List Addr) : Res := rLs D (ps.map fun p => sv (.ref p))
theorem set_mid {α : Type} {l m : List α} {x y : α} : (l ++ x :: m).set l.length y = l ++ y :: m := by simp
theorem get_mid {α : Type} {l m : List α} {x : α} : (l ++ x :: m)[l.length]? = some x := by simp
theorem lc_own {α : Type} {tg iter elt : Expr} {scope : Scope} {own : List (Str × Nat)} {C : List Res → Prop} {us : List Nat} {xs : List α} {it : α → Sl} {up : α → Slots → Slots} {d : α → List PyData}
    (F : Fam X P w K mg base A N) (hi : ItJ X K E Γ R tg iter R1 (xs.map it) C) (ok : ∀ i, BlkOk (X i).N (X i).env.scope scope own)
    (htg : Fam (BX X scope) P w K mg base A N → TgA (BX X scope) K E tg it up us) (hu : ∀ j ∈ us, j ∈ own.map (·.2)) (hC : ∀ R', C R')
    (he : Fam (BX X scope) P w K mg base A N → ∀ R', ∀ x ∈ xs, EvL (BX X scope) K E (up x (wipeG Γ (own.map (·.2)))) R' elt R' (d x))
    (hz : xs.length ≤ 1000000) (hs : ∀ i x, foldedSetIterable iter (X i).env x = pure x := by exact fun _ _ => rfl) (hcm : ∀ i, (X i).calm = true := by exact fun _ => rfl) :
    LcN X K E Γ R (.ListComp elt [⟨tg, iter, [], 0⟩] scope pos) (fun n : Addr × {ps : List Addr // ps.length = xs.length} => R1 ++ rRefs n.1 n.2.1 :: List.zipWith (fun p x => rL p (d x)) n.2.1 xs) (fun n => sv (.ref n.1)) := by
  have htg := htg (fam_blk F)
  have he := he (fam_blk F)
  obtain ⟨wi, w1, w2⟩ := hi
  obtain ⟨g, t1, t2⟩ := htg
  have he' := fun (n : { q : List Res × α // q.2 ∈ xs }) => Classical.choose_spec (he n.1.1 n.1.2 n.2)
  refine ⟨tLc wi g tYes _ (own.map (·.2)), fun i => pe_lc (hcm i) (by rw [F.fN i]; exact F.nd) (w1 i) (ok i) (fun s H C cl fp => t1 ⟨i, s, H, C, cl, fp⟩) (fun s H C cl fp => pts_nil) (fun s H C cl fp => pe_any fun n => (he' n).1 ⟨i, s, H, C, cl, fp⟩) (hs i), fun i k y py spos hy hyl hsw => ps_setLc (hcm i) (by rw [F.fN i]; exact F.nd) hy hyl hsw (w1 i) (ok i) (fun s H C cl fp => t1 ⟨i, s, H, C, cl, fp⟩) (fun s H C cl fp => pts_nil) (fun s H C cl fp => pe_any fun n => (he' n).1 ⟨i, s, H, C, cl, fp⟩) (hs i), fun S σ H Q q kk => ?_⟩
  refine w2 S σ H _ q fun J S1 H1 e1 q1 hJ D hD => ?_
  refine ⟨fun n m H => m = xs.length - n ∧ n ≤ xs.length ∧ ∃ S' ps, Same S1 S' ∧ ps.length = n ∧ SR K E Γ (R1 ++ rRefs D ps :: List.zipWith (fun p x => rL p (d x)) ps (xs.take n)) S' σ H, ⟨xs.length, by simp, Nat.zero_le _, S1, [], Same.refl _, rfl, q1.mine hD ⟨[], rfl, .nil⟩⟩, ?_⟩
  rintro n m H2 ⟨rfl, hn, S2, ps, e2, hpl, q2⟩
  obtain ⟨g1, g2⟩ := hJ n _ _ S2 σ H2 e2 q2 (hC _)
  by_cases hlt : n < xs.length
  · have hx : xs[n]? = some xs[n] := List.getElem?_eq_getElem hlt
    have hm : xs[n] ∈ xs := List.getElem_mem hlt
    have htake : xs.take (n + 1) = xs.take n ++ [xs[n]] := by rw [List.take_succ, hx]; rfl
    obtain ⟨go, hy⟩ := g1 (it xs[n]) (by rw [List.getElem?_map, hx]; rfl)
    refine .inr ⟨go, fun H' => ∃ S' ps, Same S1 S' ∧ ps.length = n + 1 ∧ SR K E Γ (R1 ++ rRefs D ps :: List.zipWith (fun p x => rL p (d x)) ps (xs.take (n + 1))) S' σ H', fun H' ⟨S', ps', h'⟩ => ⟨xs.length - (n + 1), by omega, rfl, hlt, S', ps', h'⟩, fun x H' hx' => ?_⟩
    obtain ⟨S3, e3, q3, r3⟩ := hy x H' hx'
    apply t2 xs[n] _ _ S3 (wipe σ (own.map (·.2))) H' x _ (q3.reslot (wipe_slots _ q3.slots)) r3
    intro σ4 q4 o4 l4
    refine ⟨wipe_eq o4 l4 hu, ?_⟩
    simp only [tYes, if_true]
    refine ⟨⟨(_, xs[n]), hm⟩, (he' ⟨(_, xs[n]), hm⟩).2 S3 σ4 H' _ q4 fun p y S6 H6 e6 q6 r6 => ?_⟩
    cases (show y = .ref p from r6)
    have q6' : SR K E Γ ((R1 ++ rRefs D ps :: List.zipWith (fun p x => rL p (d x)) ps (xs.take n)) ++ [rL p (d xs[n])]) S6 σ H6 := q6.reslot (slots_mono e6 q3.slots)
    rw [List.append_assoc, List.cons_append] at q6'
    obtain ⟨O, ⟨acc, eO, hacc⟩, sO⟩ := q6'.res R1.length get_mid
    subst eO
    refine ⟨acc, sO D _ hOne_same, ?_, S6, ps ++ [p], (e2.trans e3).trans e6, by rw [List.length_append, hpl]; rfl, ?_⟩
    · rw [← hacc.len, List.length_map, hpl]
      have : (sizeLine : Nat) = 16777216 := sizeLine_eq
      omega
    · have h := q6'.put (o' := .lst (acc ++ [.ref p])) (ρ' := rRefs D (ps ++ [p])) R1.length get_mid (fun O ⟨vs, e, _⟩ => ⟨_, e⟩) ⟨_, rfl, by rw [List.map_append]; exact hacc.app (.cons rfl .nil)⟩
      rw [set_mid] at h
      rw [htake, List.zipWith_append (by rw [hpl, List.length_take]; omega)]
      exact h
  · have e : n = xs.length := by omega
    subst e
    rw [List.take_length] at q2
    exact .inl ⟨g2 (by rw [List.length_map]; exact Nat.le_refl _), kk (D, ⟨ps, hpl⟩) _ S2 H2 (e1.trans e2) q2 rfl⟩
theorem lcn_ev {ν : Type} {Rn : ν → List Res} {sn : ν → Sl} (h : LcN X K E Γ R e Rn sn) : EvN X K E Γ R e Rn sn := let ⟨t, h1, _, h3⟩ := h; ⟨t, h1, h3⟩
theorem blk_asgLcN {ν : Type} {Rn : ν → List Res} {sn : ν → Sl} {elt : Expr} {gs : List Comprehension} {scope : Scope} {p2 : Pos} (F : Fam X P w K mg base A N) (k : Nat) {y : Str} {py : Pos} (h : LcN X K E Γ R (.ListComp elt gs scope p2) Rn sn) (hr : ∀ n, Blk X K E B (Γ.set k (some (sn n))) (Rn n) rest D)
    (hi : N[k]? = some y := by rfl) (hl : ∀ i, (X i).env.scope.names.lookup y = some .local := by exact fun _ => rfl) (hk : ∀ i, (X i).env.scope.kind = .function := by exact fun _ => rfl) (hp : (py.line == p2.line) = true := by rfl) (ha : (scope.names.any fun (n, k) => n == y && (k == .local || k == .cell)) = false := by decide +kernel) :
    Blk X K E B Γ R (.Assign [.Name y py] (.ListComp elt gs scope p2) pos :: rest) D := by
  obtain ⟨t, h1, h2, h3⟩ := h
  have hr' := fun n => Classical.choose_spec (hr n)
  refine ⟨tSeq (tAsg t (gName k)) _, fun i => pss_cons (h2 i k y py pos (by rw [F.fN i]; exact hi) (hl i) (sw_true (hk i) (hl i) hp ha)) (pss_any fun n => (hr' n).1 i), fun S σ H b q => ?_⟩
  exact h3 S σ H _ q fun n v S1 H1 e1 q1 r1 => ⟨n, (hr' n).2 S1 _ H1 (b.trans e1) (q1.setSlot k r1)⟩
theorem imp_id {ρ : Res} : ∀ K S O, ρ.r K S O → ρ.r K S O := fun _ _ _ h => h
end
end SL

/-! dealing: the plain side -/
namespace SL
open PySem PySem.Spec PyProof.Rows L2
def stepD (now ws caps : List Int) (best : Option Nat) (k : Nat) : Option Nat :=
  if now.getD k 0 < caps.getD k 0 then
    match best with
    | none => some k
    | some b => if (now.getD k 0 + 1) * ws.getD b 0 < (now.getD b 0 + 1) * ws.getD k 0 then some k else some b
  else best
def nextD (now ws caps : List Int) : Option Nat := (List.range now.length).foldl (stepD now ws caps) none
def dealD (ws caps : List Int) : Nat → List Int → List Nat
  | 0, _ => []
  | m + 1, now => match nextD now ws caps with
    | none => []
    | some p => p :: dealD ws caps m (now.set p (now.getD p 0 + 1))
def roomD (held caps : List Int) : Int := ((held.zip caps).map fun x => max 0 (x.2 - x.1)).sum
theorem fold_step {now ws caps : List Int} : ∀ (l : List Nat) (best : Option Nat), (l.foldl (stepD now ws caps) best = none → best = none ∧ ∀ k ∈ l, ¬ now.getD k 0 < caps.getD k 0) ∧ ∀ p, l.foldl (stepD now ws caps) best = some p → best = some p ∨ (p ∈ l ∧ now.getD p 0 < caps.getD p 0)
  | [], best => ⟨fun h => ⟨h, fun k hk => nomatch hk⟩, fun p h => .inl h⟩
  | k :: l, best => by
    rw [List.foldl_cons]
    obtain ⟨h1, h2⟩ := fold_step (ws := ws) l (stepD now ws caps best k)
    refine ⟨fun h => ?_, fun p h => ?_⟩
    · obtain ⟨h3, h4⟩ := h1 h
      unfold stepD at h3
      split at h3
      · split at h3
        · exact nomatch h3
        · split at h3 <;> exact nomatch h3
      · rename_i hc
        refine ⟨h3, fun j hj => ?_⟩
        rcases List.mem_cons.mp hj with e | e
        · rw [e]; exact hc
        · exact h4 j e
    · rcases h2 p h with h3 | ⟨h3, h4⟩
      · unfold stepD at h3
        split at h3
        · rename_i hc
          split at h3
          · cases h3; exact .inr ⟨List.mem_cons_self .., hc⟩
          · split at h3
            · cases h3; exact .inr ⟨List.mem_cons_self .., hc⟩
            · exact .inl h3
        · exact .inl h3
      · exact .inr ⟨List.mem_cons_of_mem _ h3, h4⟩
theorem next_in {now ws caps : List Int} {p : Nat} (h : nextD now ws caps = some p) : p < now.length ∧ now.getD p 0 < caps.getD p 0 := by
  rcases (fold_step (List.range now.length) none).2 p h with h1 | ⟨h1, h2⟩
  · exact nomatch h1
  · exact ⟨List.mem_range.mp h1, h2⟩
theorem room_nn : ∀ (now caps : List Int), 0 ≤ roomD now caps
  | [], _ => Int.le_refl _
  | a :: now, [] => Int.le_refl _
  | a :: now, c :: caps => by
    have := room_nn now caps
    unfold roomD at *
    rw [List.zip_cons_cons, List.map_cons, List.sum_cons]
    show 0 ≤ max 0 (c - a) + _
    omega
theorem room_pos : ∀ {now caps : List Int}, 0 < roomD now caps → ∃ k, k < now.length ∧ now.getD k 0 < caps.getD k 0
  | [], _, h => absurd h (by unfold roomD; simp)
  | a :: now, [], h => absurd h (by unfold roomD; simp)
  | a :: now, c :: caps, h => by
    by_cases hc : a < c
    · exact ⟨0, by simp, by simpa using hc⟩
    · have h1 : 0 < roomD now caps := by
        unfold roomD at *
        rw [List.zip_cons_cons, List.map_cons, List.sum_cons] at h
        have h : 0 < max 0 (c - a) + ((now.zip caps).map fun x => max 0 (x.2 - x.1)).sum := h
        omega
      obtain ⟨k, h2, h3⟩ := room_pos h1
      exact ⟨k + 1, by simp; omega, by simpa using h3⟩
theorem room_set : ∀ {now caps : List Int} {p : Nat}, now.length ≤ caps.length → p < now.length → now.getD p 0 < caps.getD p 0 → roomD (now.set p (now.getD p 0 + 1)) caps = roomD now caps - 1
  | [], _, p, _, h, _ => nomatch h
  | a :: now, [], p, hl, _, _ => by simp at hl
  | a :: now, c :: caps, 0, hl, h, hc => by
    have hc : a < c := by simpa using hc
    unfold roomD
    rw [List.set_cons_zero, List.zip_cons_cons, List.zip_cons_cons, List.map_cons, List.map_cons, List.sum_cons, List.sum_cons]
    show max 0 (c - (a + 1)) + _ = max 0 (c - a) + _ - 1
    omega
  | a :: now, c :: caps, p + 1, hl, h, hc => by
    have ih := room_set (now := now) (caps := caps) (p := p) (by simpa using hl) (by simpa using h) (by simpa using hc)
    unfold roomD at *
    rw [List.set_cons_succ, List.zip_cons_cons, List.zip_cons_cons, List.map_cons, List.map_cons, List.sum_cons, List.sum_cons, List.getD_cons_succ, ih]
    omega
theorem next_some {now ws caps : List Int} (h : 0 < roomD now caps) : ∃ p, nextD now ws caps = some p ∧ p < now.length ∧ now.getD p 0 < caps.getD p 0 := by
  cases e : nextD now ws caps with
  | some p => exact ⟨p, rfl, next_in e⟩
  | none =>
    obtain ⟨k, h1, h2⟩ := room_pos h
    exact absurd h2 (((fold_step (List.range now.length) none).1 e).2 k (List.mem_range.mpr h1))
/-! the least key -/
def keyD (now ws : List Int) (k : Nat) : Int := (now.getD k 0 + 1) * (232792560 / ws.getD k 0)
def pairD (now ws : List Int) (k : Nat) : PyData := .tuple [.int (keyD now ws k), .int (k : Int)]
def keysD (now ws caps : List Int) : List Nat := (List.range now.length).filter fun k => decide (now.getD k 0 < caps.getD k 0)
theorem div_exact {w : Int} (h0 : 1 ≤ w) (h1 : w ≤ 20) : 232792560 / w * w = 232792560 := by
  have : w = 1 ∨ w = 2 ∨ w = 3 ∨ w = 4 ∨ w = 5 ∨ w = 6 ∨ w = 7 ∨ w = 8 ∨ w = 9 ∨ w = 10 ∨ w = 11 ∨ w = 12 ∨ w = 13 ∨ w = 14 ∨ w = 15 ∨ w = 16 ∨ w = 17 ∨ w = 18 ∨ w = 19 ∨ w = 20 := by omega
  rcases this with h | h | h | h | h | h | h | h | h | h | h | h | h | h | h | h | h | h | h | h <;> subst h <;> decide
theorem scale_lt {a v b w : Int} (hv : 1 ≤ v ∧ v ≤ 20) (hw : 1 ≤ w ∧ w ≤ 20) : a * (232792560 / v) < b * (232792560 / w) ↔ a * w < b * v := by
  have e1 := div_exact hv.1 hv.2
  have e2 := div_exact hw.1 hw.2
  have hp : 0 < v * w := Int.mul_pos (by omega) (by omega)
  have h1 : a * (232792560 / v) * (v * w) = a * w * 232792560 := by
    rw [show a * (232792560 / v) * (v * w) = a * w * (232792560 / v * v) by simp only [Int.mul_assoc, Int.mul_comm, Int.mul_left_comm], e1]
  have h2 : b * (232792560 / w) * (v * w) = b * v * 232792560 := by
    rw [show b * (232792560 / w) * (v * w) = b * v * (232792560 / w * w) by simp only [Int.mul_assoc, Int.mul_comm, Int.mul_left_comm], e2]
  constructor
  · intro h
    have := Int.mul_lt_mul_of_pos_right h hp
    rw [h1, h2] at this
    exact Int.lt_of_mul_lt_mul_right this (by decide)
  · intro h
    have := Int.mul_lt_mul_of_pos_right h (show (0 : Int) < 232792560 by decide)
    rw [← h1, ← h2] at this
    exact Int.lt_of_mul_lt_mul_right this (Int.le_of_lt hp)
theorem fold_min {now ws caps : List Int} (hw : ∀ k, k < now.length → 1 ≤ ws.getD k 0 ∧ ws.getD k 0 ≤ 20) : ∀ (l : List Nat) (b : Nat), (∀ k ∈ l, b < k ∧ k < now.length) → b < now.length → l.Pairwise (· < ·) →
    ∃ p, l.foldl (stepD now ws caps) (some b) = some p ∧ PySem.W.minD (pairD now ws b) ((l.filter fun k => decide (now.getD k 0 < caps.getD k 0)).map (pairD now ws)) = pairD now ws p
  | [], b, _, _, _ => ⟨b, rfl, rfl⟩
  | k :: l, b, hb, hbn, hp => by
    obtain ⟨hbk, hkn⟩ := hb k (List.mem_cons_self ..)
    obtain ⟨hp1, hp2⟩ := List.pairwise_cons.mp hp
    rw [List.foldl_cons, List.filter_cons]
    by_cases hc : now.getD k 0 < caps.getD k 0
    · rw [if_pos (decide_eq_true hc), List.map_cons]
      have hlt : PySem.W.dataLt (pairD now ws k) (pairD now ws b) = decide ((now.getD k 0 + 1) * ws.getD b 0 < (now.getD b 0 + 1) * ws.getD k 0) := by
        unfold pairD
        rw [PySem.W.dataLt_ii]
        refine decide_eq_decide.mpr ⟨fun h => ?_, fun h => .inl ((scale_lt (hw k hkn) (hw b hbn)).mpr h)⟩
        rcases h with h | ⟨_, h⟩
        · exact (scale_lt (hw k hkn) (hw b hbn)).mp h
        · omega
      unfold PySem.W.minD
      rw [List.foldl_cons, hlt]
      unfold stepD
      rw [if_pos hc]
      by_cases h2 : (now.getD k 0 + 1) * ws.getD b 0 < (now.getD b 0 + 1) * ws.getD k 0
      · rw [if_pos (decide_eq_true h2)]
        simp only [if_pos h2]
        exact fold_min hw l k (fun j hj => ⟨hp1 j hj, (hb j (List.mem_cons_of_mem _ hj)).2⟩) hkn hp2
      · rw [if_neg (by simpa using h2)]
        simp only [if_neg h2]
        exact fold_min hw l b (fun j hj => hb j (List.mem_cons_of_mem _ hj)) hbn hp2
    · rw [if_neg (by simpa using hc)]
      have : stepD now ws caps (some b) k = some b := if_neg hc
      rw [this]
      exact fold_min hw l b (fun j hj => hb j (List.mem_cons_of_mem _ hj)) hbn hp2
theorem fold_none {now ws caps : List Int} : ∀ (l : List Nat), (l.filter fun k => decide (now.getD k 0 < caps.getD k 0)) = [] ∧ l.foldl (stepD now ws caps) none = none ∨
    ∃ b l1 l2, l = l1 ++ b :: l2 ∧ (l.filter fun k => decide (now.getD k 0 < caps.getD k 0)) = b :: (l2.filter fun k => decide (now.getD k 0 < caps.getD k 0)) ∧ l.foldl (stepD now ws caps) none = l2.foldl (stepD now ws caps) (some b)
  | [] => .inl ⟨rfl, rfl⟩
  | k :: l => by
    by_cases hc : now.getD k 0 < caps.getD k 0
    · refine .inr ⟨k, [], l, rfl, by rw [List.filter_cons, if_pos (decide_eq_true hc)], ?_⟩
      rw [List.foldl_cons]
      have : stepD now ws caps none k = some k := by unfold stepD; rw [if_pos hc]
      rw [this]
    · have h1 : stepD now ws caps none k = none := by unfold stepD; rw [if_neg hc]
      rcases fold_none (ws := ws) l with ⟨h2, h3⟩ | ⟨b, l1, l2, e, h2, h3⟩
      · exact .inl ⟨by rw [List.filter_cons, if_neg (by simpa using hc), h2], by rw [List.foldl_cons, h1, h3]⟩
      · exact .inr ⟨b, k :: l1, l2, by rw [e]; rfl, by rw [List.filter_cons, if_neg (by simpa using hc), h2], by rw [List.foldl_cons, h1, h3]⟩
/-- the least of the keys tells the next place -/
theorem next_key {now ws caps : List Int} (hw : ∀ k, k < now.length → 1 ≤ ws.getD k 0 ∧ ws.getD k 0 ≤ 20) {p : Nat} (h : nextD now ws caps = some p) : ∃ b l, keysD now ws caps = b :: l ∧ PySem.W.minD (pairD now ws b) (l.map (pairD now ws)) = pairD now ws p := by
  unfold nextD at h
  rcases fold_none (now := now) (ws := ws) (caps := caps) (List.range now.length) with ⟨h2, h3⟩ | ⟨b, l1, l2, e, h2, h3⟩
  · rw [h3] at h; exact nomatch h
  · have hr : (List.range now.length).Pairwise (· < ·) := List.pairwise_lt_range
    rw [e] at hr
    obtain ⟨_, hr2, _⟩ := List.pairwise_append.mp hr
    obtain ⟨hr3, hr4⟩ := List.pairwise_cons.mp hr2
    have hmem : ∀ k ∈ b :: l2, k < now.length := fun k hk => List.mem_range.mp (by rw [e]; exact List.mem_append.mpr (.inr hk))
    obtain ⟨q, h4, h5⟩ := fold_min (caps := caps) hw l2 b (fun k hk => ⟨hr3 k hk, hmem k (List.mem_cons_of_mem _ hk)⟩) (hmem b (List.mem_cons_self ..)) hr4
    rw [h3, h4] at h
    cases h
    exact ⟨b, _, h2, h5⟩
theorem deal_len {ws caps : List Int} : ∀ (m : Nat) (now : List Int), (dealD ws caps m now).length ≤ m
  | 0, _ => Nat.le_refl _
  | m + 1, now => by
    unfold dealD
    split
    · simp
    · rw [List.length_cons]; exact Nat.succ_le_succ (deal_len m _)
end SL

/-! bodies of defs to which cells are handed; lists of lists of one's own; the places -/
namespace SL
open PySem PySem.Spec PyProof.Rows L2
section
variable {ι : Type} {X : ι → Cx} {K : PySem.W.Frag} {E : Ent} {B : Hp} {Γ Γ' : Slots} {R R' R1 R2' R3 : List Res} {a b c e o : Expr} {es : List Expr} {pos p' apos : Pos} {s s1 s2 s3 : Sl}
  {P : Program} {w : World} {mg : Str → Option Value} {base : Heap} {A : Around} {N ps : List Str} {rest sts : List Stmt} {D : Ends} {S S' H H' : Hp} {σ σ' : L2.St} {f : Str} {i j : Int}
abbrev BodyG (P : Program) (w : World) (K : PySem.W.Frag) (mg : Str → Option Value) (base : Heap) (N : List Str) (qual : Str) (st : Stmt) (fa : Addr) (k : Nat) {ν : Type} (as : List Sl) (Rs : List Res) (Rn : ν → List Res) (res : ν → Sl) : Prop :=
  ∀ (cdv : Value) (A : Around) (outer : List Env) (s : Shared) (H S0 : Hp) (A0 : Addr → Prop) (E : XK) (Q : VK), Room k (A.deeper (envOfC qual (defScope st) s.heap.objs.size fa cdv)) → Fam (FX P w K mg base N qual st fa cdv A outer s H E) P w K mg base (A.deeper (envOfC qual (defScope st) s.heap.objs.size fa cdv)) N →
    RetOk K ⟨H, S0, A0⟩ Rn res Q → Blk (FX P w K mg base N qual st fa cdv A outer s H E) K ⟨H, S0, A0⟩ S0 (as.map some ++ List.replicate (N.length - as.length) none) Rs (defBody st) { nx := fun _ H' => Q .non H', rt := Q }
theorem fnG {θ : Type} {ν : θ → Type} {pre : θ → Prop} {as : θ → List Sl} {Rs : θ → List Res} {Rn : ∀ i, ν i → List Res} {res : ∀ i, ν i → Sl} {x qual : Str} {st : Stmt} {f : Addr} {fd : FuncData} {k : Nat} (F : Fun K x qual st f fd) (Sc : FnScope N ps (defScope st)) (hl : ∀ i, (as i).length = ps.length)
    (hb : ∀ i, pre i → BodyG P w K mg base N qual st f k (as i) (Rs i) (Rn i) (res i)) : FnOk P w K mg base CX0 (k + 1) f fd ps (spJ K pre as Rs Rn res) :=
  fn_ok F Sc hl fun i cdv A outer s H S0 A0 E Q hr hp hq => hb i hp cdv A outer s H S0 A0 E Q hr (fam_fx Sc) hq
/-- a body that raises -/
abbrev BodyX (P : Program) (w : World) (K : PySem.W.Frag) (mg : Str → Option Value) (base : Heap) (N : List Str) (qual : Str) (st : Stmt) (fa : Addr) (k : Nat) (C : Addr) (as : List Sl) (Rs Rn : List Res) : Prop :=
  ∀ (cdv : Value) (A : Around) (outer : List Env) (s : Shared) (H S0 : Hp) (A0 : Addr → Prop) (E : XK) (W : WX) (Q : VK), Room k (A.deeper (envOfC qual (defScope st) s.heap.objs.size fa cdv)) → Fam (FXR P w K mg base N qual st fa cdv A outer s H E) P w K mg base (A.deeper (envOfC qual (defScope st) s.heap.objs.size fa cdv)) N →
    (∀ i, Takes (FXR P w K mg base N qual st fa cdv A outer s H E i) W) → (∀ i, PassesOwn (model (FXR P w K mg base N qual st fa cdv A outer s H E i).prog (FXR P w K mg base N qual st fa cdv A outer s H E i).w) (FXR P w K mg base N qual st fa cdv A outer s H E i).A (FXR P w K mg base N qual st fa cdv A outer s H E i).env (FXR P w K mg base N qual st fa cdv A outer s H E i).xe) →
    ExcOk K ⟨H, S0, A0⟩ C Rn W → Blk (FXR P w K mg base N qual st fa cdv A outer s H E) K ⟨H, S0, A0⟩ S0 (as.map some ++ List.replicate (N.length - as.length) none) Rs (defBody st) { nx := fun _ H' => Q .non H', rt := Q }
theorem fnX {θ : Type} {pre : θ → Prop} {as : θ → List Sl} {Rs Rn : θ → List Res} {x qual : Str} {st : Stmt} {f C : Addr} {fd : FuncData} {k : Nat} (F : Fun K x qual st f fd) (Sc : FnScope N ps (defScope st)) (hl : ∀ i, (as i).length = ps.length)
    (hb : ∀ i, pre i → BodyX P w K mg base N qual st f k C (as i) (Rs i) (Rn i)) : FnOk P w K mg base (L2.CX P w) (k + 1) f fd ps (spR K pre as Rs C Rn) :=
  fn_okR F Sc hl fun i cdv A outer s H S0 A0 E W Q hr F' hp tk ps hq => hb i hp cdv A outer s H S0 A0 E W Q hr F' tk ps hq
/-- some of what is one's own -/
theorem SR.sub' (q : SR K E Γ R S σ H) (h : List.Sublist R' R) : SR K E Γ R' S σ H := by
  obtain ⟨Os, ⟨h1, h2⟩, h3⟩ := q.own
  have : ∀ {R' R : List Res} {Os : List Hp}, List.Sublist R' R → All2 (fun (ρ : Res) O => ρ.r K S O ∧ Same O H ∧ ∀ a, O a ≠ none → S a = none) R Os → ∃ Os', List.Sublist Os' Os ∧ All2 (fun (ρ : Res) O => ρ.r K S O ∧ Same O H ∧ ∀ a, O a ≠ none → S a = none) R' Os' := by
    intro R' R Os hs
    induction hs generalizing Os with
    | slnil => intro h; cases h; exact ⟨[], .slnil, .nil⟩
    | cons x _ ih =>
      intro h
      cases h with
      | cons a b => obtain ⟨Os', g1, g2⟩ := ih b; exact ⟨Os', .cons _ g1, g2⟩
    | cons_cons x _ ih =>
      intro h
      cases h with
      | cons a b => obtain ⟨Os', g1, g2⟩ := ih b; exact ⟨_ :: Os', .cons_cons _ g1, .cons a g2⟩
  obtain ⟨Os', g1, g2⟩ := this h h1
  exact ⟨q.sub, q.ext, q.fr, q.new, ⟨Os', ⟨g2, h2.sublist g1⟩, fun O hO => h3 O (g1.subset hO)⟩, q.slots⟩
theorem blk_sub (R' : List Res) (h : List.Sublist R' R) (hr : Blk X K E B Γ R' sts D) : Blk X K E B Γ R sts D := by
  obtain ⟨t, h1, h2⟩ := hr
  exact ⟨t, h1, fun S σ H b q => h2 S σ H b (q.sub' h)⟩
/-- a return, of some of what is one's own -/
theorem retG {ν : Type} {Rn : ν → List Res} {res : ν → Sl} {Q : VK} (hq : RetOk K E Rn res Q) (n : ν) (hR : List.Sublist (Rn n) R1) (h : ∀ K S v, s.r K S v → (res n).r K S v) : ∀ S σ H v, SR K E Γ R1 S σ H → s.r K S v → Q v H :=
  fun S σ H v q r => hq n Γ S σ H v (q.sub' hR) (h K S v r)
/-- an item of a list of values -/
theorem ix_rls (F : Fam X P w K mg base A N) (k : Nat) {p : Addr} {ss : List Sl} (hk : R[k]? = some (rLs p ss)) (hi : atI ss i = some s) : IxJ X K E R (sv (.ref p)) (sv (.int i)) s :=
  ⟨rIxL K, fun n => by rw [← F.fK n]; exact ix_list, fun Γ S σ H x y Q q r1 r2 k' => by
    cases (show y = .int i from r2)
    cases (show x = .ref p from r1)
    obtain ⟨O, ⟨vs, e, h2⟩, h1⟩ := q.res k hk
    subst e
    have h1 := h1 p _ hOne_same
    obtain ⟨m, v, e1, e2, e3⟩ := atI_len h2.len.symm hi
    obtain ⟨v', e4, h4⟩ := h2.get e1
    rw [e2] at e4
    cases e4
    exact ⟨p, vs, i, v, rfl, rfl, SqL.of h1, e3, k' v S H (Same.refl _) q h4⟩⟩
/-- a list of lists of one's own as data -/
theorem dv_refs (k : Nat) {p : Addr} {ps : List Addr} {dss : List (List PyData)} (hk : R[k]? = some (rRefs p ps)) (h : All2 (fun q ds => ∃ j : Nat, R[j]? = some (rL q ds)) ps dss) : DV K R (sv (.ref p)) (.list (dss.map .list)) := fun E Γ S σ H v q r => by
  cases (show v = .ref p from r)
  obtain ⟨O, ⟨vs, e, h2⟩, h1⟩ := q.res k hk
  subst e
  replace h1 := h1 p _ hOne_same
  have hv : vs = ps.map V.ref := by
    clear h h1 hk
    induction ps generalizing vs with
    | nil => cases h2; rfl
    | cons a ps ih =>
      cases h2 with
      | cons x y =>
        cases (show _ = V.ref a from x)
        rw [ih _ y]
        rfl
  subst hv
  have hd : DpAll K H (ps.map V.ref) (dss.map .list) ∧ PyData.plainAll (dss.map .list) = true := by
    clear h1 h2 hk
    induction h with
    | nil => exact ⟨.nil, rfl⟩
    | cons a b ih =>
      obtain ⟨j, hj⟩ := a
      obtain ⟨g1, g2⟩ := dv_o (K := K) j hj E Γ S σ H _ q rfl
      rw [List.map_cons, List.map_cons]
      exact ⟨.cons g1 ih.1, by rw [PyData.plainAll, g2, ih.2]; rfl⟩
  exact ⟨.lst (SqL.of h1) hd.1, by rw [PyData.plain]; exact hd.2⟩
end
theorem tup_III {K : PySem.W.Frag} {α : Type} {g h l : α → Int} : ∀ (y : α) S v, (sd (.tuple [.int (g y), .int (h y), .int (l y)])).r K S v → (stup [dI (g y), dI (h y), dI (l y)]).r K S v := fun y S v r => tup_sl r
theorem boot_ValueError : bootBuiltins "ValueError" = some (.type "ValueError") := by decide +kernel
/-- a place or None -/
def dOI : Option Nat → Sl
  | none => dN
  | some k => dI (k : Int)
theorem minD_LV {α : Type} {f : α → PyData} {x : α} {xs : List α} : (x :: xs).map f = f x :: xs.map f := rfl
theorem alike_pairD (now ws : List Int) (b : Nat) (l : List Nat) : PySem.W.AlikeAll (pairD now ws b :: l.map (pairD now ws)) := by
  have hm : ∀ x ∈ pairD now ws b :: l.map (pairD now ws), ∃ k, x = pairD now ws k := fun x hx => by
    rcases List.mem_cons.mp hx with h | h
    · exact ⟨b, h⟩
    · obtain ⟨k, _, rfl⟩ := List.mem_map.mp h; exact ⟨k, rfl⟩
  refine ⟨fun x hx y hy => ?_, fun x hx => ?_⟩
  · obtain ⟨k, rfl⟩ := hm x hx
    obtain ⟨j, rfl⟩ := hm y hy
    rfl
  · obtain ⟨k, rfl⟩ := hm x hx
    exact fun e => nomatch e
theorem deep_pairD (now ws : List Int) (b : Nat) (l : List Nat) : PyData.depthAll (pairD now ws b :: l.map (pairD now ws)) ≤ 32 := by
  have : depA 32 (pairD now ws b :: l.map (pairD now ws)) := depA_cons (dep_tup (depA_cons dep_int (depA_cons dep_int depA_nil))) (depA_map fun _ => dep_tup (depA_cons dep_int (depA_cons dep_int depA_nil)))
  exact this
end SL
namespace SL
open PySem PySem.Spec PyProof.Rows L2
section
variable {ι : Type} {X : ι → Cx} {K : PySem.W.Frag} {E : Ent} {B : Hp} {Γ Γ' : Slots} {R R' : List Res} {pos : Pos} {rest : List Stmt} {D : Ends}
/-- a try whose body raises nothing and leaves something of which a law is told -/
theorem blk_tryNoX {γ : Type} (I : γ → Prop) (G : γ → Slots) (RR : γ → List Res) {body : List Stmt} {h₀ : ExceptHandler} {hs : List ExceptHandler} (hb : Blk X K E B Γ R body { nx := PstX K E B I G RR, rt := D.rt, bk := D.bk, ct := D.ct }) (hr : ∀ g, I g → Blk X K E B (G g) (RR g) rest D) (hn : ∀ i e s, ¬ (X i).xe e s := by exact fun _ _ _ h => h) :
    Blk X K E B Γ R (.Try body (h₀ :: hs) [] [] pos :: rest) D := by
  obtain ⟨t, h1, h2⟩ := hb
  have hr' := fun (n : { g : γ // I g }) => Classical.choose_spec (hr n.1 n.2)
  refine ⟨Evl.tCut (tThru t tNext) _, fun i => Evl.pss_cut (ps_try_never (hn i) (h1 i) pss_nil) (pss_any fun n => (hr' n).1 i), fun S σ H b q => ⟨PstX K E B I G RR, ?_, fun σ' H' ⟨g, hI, S2, e2, q2⟩ => ⟨⟨g, hI⟩, (hr' ⟨g, hI⟩).2 S2 σ' H' e2 q2⟩⟩⟩
  exact h2 S σ H b q
end
end SL
namespace SL
open PySem PySem.Spec PyProof.Rows L2
theorem kit_own {K : PySem.W.Frag} {C D : Addr} {b : Bool} (hd : PySem.W.hasDictIn K D = true) (ht : PySem.W.typeIn K (.ref D) = some (.type "type")) (hs : PySem.W.subIn K (.ref C) (.ref D) = some b) (hself : PySem.W.subIn K (.ref D) (.ref D) = some true) : PySem.W.kitOne K (.ref C) (.ref D) = some b := by
  unfold PySem.W.kitOne
  split
  · rename_i h
    have e : C = D := Value.ref.inj (beq_iff_eq.mp h)
    subst e
    rw [hself] at hs
    exact hs
  · obtain ⟨cd, hc, _⟩ := PySem.W.any_some hd
    unfold PySem.W.kitCls
    simp only []
    rw [if_pos (by rw [hc, ht]; rfl)]
    exact hs
theorem kit_bty {K : PySem.W.Frag} {C : Addr} {T : String} {b : Bool} (hm : PySem.W.kitMeta T = true) (hs : PySem.W.subIn K (.ref C) (.type T) = some b) : PySem.W.kitOne K (.ref C) (.type T) = some b := by
  unfold PySem.W.kitOne
  rw [if_neg (fun h => nomatch (beq_iff_eq.mp h : Value.ref C = Value.type T))]
  unfold PySem.W.kitCls
  simp only []
  rw [if_pos hm]
  exact hs
end SL

/-! defs that show things: called where nothing is being shown -/
namespace SL
open PySem PySem.Spec PyProof.Rows L2
/-- as FnOk, where nothing is being shown -/
structure FnG (P : Program) (w : World) (K : PySem.W.Frag) (mg : Str → Option Value) (base : Heap) (CX : CXT) (k : Nat) (fa : Addr) (fd : FuncData) (ps : List Str) (sp : Sp) : Prop where
  len : ∀ vs H Q E, sp vs H Q E → vs.length = ps.length
  go : ∀ (A : Around) (outer : List Env) (s : Shared) (H : Hp) (args : Args) (us : List Value) (vs : List V) (Q : VK) (E : XK), Room k A → A.guards = some [] → Env0 P w K mg base A outer s H → BindsTo s fd args (ps.zip us) → Vals vs us → sp vs H Q E →
    codeAny (model P w) A (.call (.ref fa) args) (CR CX outer P w H s Q E) s
section
variable {P : Program} {w : World} {K : PySem.W.Frag} {mg : Str → Option Value} {base : Heap} {CX : CXT} {k : Nat} {fa : Addr} {ps N : List Str} {sp : Sp}
theorem FnG.of_body {x qual : Str} {st : Stmt} {fd : FuncData} (F : Fun K x qual st fa fd) (Sc : FnScope N ps (defScope st)) (hlen : ∀ vs H Q E, sp vs H Q E → vs.length = ps.length)
    (hb : ∀ (cdv : Value) (A : Around) (outer : List Env) (s : Shared) (H : Hp) (vs : List V) (Q : VK) (E : XK), Room k (A.deeper (envOfC qual (defScope st) s.heap.objs.size fa cdv)) → A.guards = some [] → sp vs H Q E →
      ∃ t, PSs (cxOf CX P w K mg base N qual (defScope st) fa cdv A outer s H E) (defBody st) t ∧ t { nx := fun _ H' => Q .non H', rt := Q } (L2.start N vs) H) : FnG P w K mg base CX (k + 1) fa fd ps sp := by
  obtain ⟨oc, od, kV, doc, pm, an, cdv, ct, osl, rfl, lk, hcd⟩ := F.ex
  refine ⟨hlen, fun A outer s H args us vs Q E hr hg env hbind hvals hsp => ?_⟩
  have inK : K.In s.heap := env.mod.kin.keeps fun b o e => (env.bs b o e).1
  have noLim : s.heap.NoLimit := env.mod.nolimit.keeps fun b o e => (env.bs b o e).1
  have parKind : ∀ y ∈ ps.zip us, (defScope st).names.lookup y.1 = some .local ∨ ((defScope st).names.lookup y.1 = some .cell ∧ ((cellsFrom (s.heap.objs.size + 1) (defScope st).names []).lookup y.1).isSome = true) := by
    rintro ⟨n, v⟩ hy
    exact (Sc.par n (List.of_mem_zip hy).1).imp id fun q => ⟨q, PySem.W.cellsFrom_some _ _ _ (.inl q)⟩
  refine codeAny_call_function hr.depth (inK _ _ lk) rfl Sc.co Sc.gen rfl (PySem.W.codeRec_of inK hcd) (hbind _ _ _ _ (wpAny_newFunctionEnv_cells Sc.kind parKind fun env' he s1 x => ?_))
  subst he
  refine ⟨noLim.keeps x.toInCall.keep, codeAny_func ?_⟩
  obtain ⟨t, ht, hq⟩ := hb cdv A outer s H vs Q E (hr.deeper _) hg hsp
  have I0 : Inv (cxOf CX P w K mg base N qual (defScope st) fa cdv A outer s H E) [] (L2.start N vs) H s1 := inv_start Sc hr.hd env (hlen _ _ _ _ hsp) hvals x
  refine wpAny_mono (ht.run [] s1 (L2.start N vs) H _ I0 hq) (fun fl s' hs => ?_) fun e s' hs => hs
  cases fl with
  | ret u => obtain ⟨v, σ', H', J, rv, q⟩ := hs; exact ⟨v, H', J.os, J.bare, J.base, J.hok, rv, q⟩
  | next => obtain ⟨σ', H', J, q⟩ := hs; exact ⟨V.non, H', J.os, J.bare, J.base, J.hok, rfl, q⟩
  | brk => obtain ⟨_, _, _, q⟩ := hs; exact q.elim
  | cont => obtain ⟨_, _, _, q⟩ := hs; exact q.elim
end
/-- such a def, to be called -/
structure DefG (P : Program) (w : World) (K : PySem.W.Frag) (mg : Str → Option Value) (base : Heap) (f : Str) (ps : List Str) (k : Nat) (sp : Sp) : Prop where
  ex : ∃ (fa : Addr) (fd : FuncData), FnG P w K mg base CX0 k fa fd ps sp ∧ mg f = some (.ref fa) ∧ PySem.W.keepIn K (.ref fa) = true ∧ Binds K fd ps []
structure CalG (P : Program) (w : World) (K : PySem.W.Frag) (mg : Str → Option Value) (base : Heap) (A : Around) (f : Str) (ps : List Str) (sp : Sp) : Prop where
  ex : ∃ (k : Nat) (fa : Addr) (fd : FuncData), FnG P w K mg base CX0 k fa fd ps sp ∧ (Room k A ∧ A.guards = some []) ∧ mg f = some (.ref fa) ∧ PySem.W.keepIn K (.ref fa) = true ∧ Binds K fd ps []
theorem DefG.cal {P : Program} {w : World} {K : PySem.W.Frag} {mg : Str → Option Value} {base : Heap} {A : Around} {f : Str} {ps : List Str} {k m : Nat} {sp : Sp} (d : DefG P w K mg base f ps k sp) (hr : Room m A) (hg : A.guards = some []) (hk : k ≤ m := by decide) : CalG P w K mg base A f ps sp :=
  let ⟨fa, fd, h1, h2, h3, h4⟩ := d.ex; ⟨k, fa, fd, h1, ⟨hr.mono hk, hg⟩, h2, h3, h4⟩
section
variable {X : Cx} {k : Nat} {fa : Addr} {fd : FuncData} {ps : List Str} {sp : Sp} {x : Str} {p pos : Pos} {e : Expr} {es : List Expr} {t : TA}
theorem run_shown {pins : List (Addr × Obj)} {σ : L2.St} {H : Hp} {s : Shared} {Q : VK} {us : List Value} {vs : List V} (F : FnG X.prog X.w X.K X.mg X.base CX0 k fa fd ps sp) (hr : Room k X.A) (hgd : X.A.guards = some []) (hb : Binds X.K fd ps [])
    (I : Inv X pins σ H s) (r : Vals vs us) (h : sp vs H Q E0) : wpAny (model X.prog X.w) X.A (call (.ref fa) us) (EP X pins σ Q) X.xe s := by
  have hl : us.length = ps.length := (r.length).symm.trans (F.len _ _ _ _ h)
  have b := hb s us I.kIn (by rw [List.append_nil]; exact hl)
  rw [List.append_nil] at b
  refine wpAny_call (codeAny_mono (F.go X.A X.stack s H ⟨us, []⟩ us vs Q E0 hr hgd I.env0 b r h) fun res s' hq => ?_)
  match res, hq with
  | .error _, hq => exact hq.elim
  | .ok (.ret u), hq => exact I.after hq
  | .ok .next, hq => exact hq.elim
  | .ok .brk, hq => exact hq.elim
  | .ok .cont, hq => exact hq.elim
theorem pe_shown (F : FnG X.prog X.w X.K X.mg X.base CX0 k fa fd ps sp) (hr : Room k X.A) (hgd : X.A.guards = some []) (hg : Gl X x) (hm : X.mg x = some (.ref fa)) (hk : PySem.W.keepIn X.K (.ref fa) = true) (hb : Binds X.K fd ps []) (ha : PA X (e :: es) t)
    (hdb : (x == ("__debug__" : Str)) = false) (he : starEach (e :: es) X.env = (false, eval e X.env) :: starEach es X.env) (hpl : (backTo pos (starEach es X.env)).any (·.1) = false) :
    PE X (.Call (.Name x p) (e :: es) [] pos) (fun σ H Q => t σ H fun vs H1 => sp vs H1 Q E0) :=
  ⟨fun pins s σ H Q I h => wpAny_Call_Name_kw (ld_glob I hg hm (PySem.W.callWith_K (h₀ := X.base) I.ok.mod.kin hk (thn (ha.run pos pins s σ H _ I h) fun us s1 ⟨vs, H1, I1, r, q⟩ => ⟨I1.kIn, run_shown F hr hgd hb I1 r q⟩) he hpl) hdb)⟩
end
section
variable {ι : Type} {X : ι → Cx} {K : PySem.W.Frag} {E : Ent} {B : Hp} {Γ Γ' : Slots} {R R' R1 R2' R3 : List Res} {a b c e o : Expr} {es : List Expr} {pos p' apos : Pos} {s s1 s2 s3 : Sl}
  {P : Program} {w : World} {mg : Str → Option Value} {base : Heap} {A : Around} {N ps : List Str} {rest sts : List Stmt} {D : Ends} {S S' H H' : Hp} {σ σ' : L2.St} {f : Str}
theorem ev_callGd {θ : Type} {ν : θ → Type} {pre : θ → Prop} {as : θ → List Sl} {Rs : θ → List Res} {Rn : ∀ i, ν i → List Res} {res : ∀ i, ν i → Sl} (F : Fam X P w K mg base A N) (C : CalG P w K mg base A f ps (spJ K pre as Rs Rn res)) (i : θ) (Ra Rb : List Res) (ha : ArJ X K E Γ R (e :: es) R1 (as i)) (hR : R1 = Ra ++ Rs i ++ Rb) (hpre : pre i)
    (hg : ∀ i, Gl (X i) f := by exact fun _ => rfl) (he : ∀ i, starEach (e :: es) (X i).env = (false, eval e (X i).env) :: starEach es (X i).env := by exact fun _ => rfl) (hpl : ∀ i, (backTo pos (starEach es (X i).env)).any (·.1) = false := by exact fun _ => rfl) (hdb : (f == ("__debug__" : Str)) = false := by decide) :
    EvN X K E Γ R (.Call (.Name f p') (e :: es) [] pos) (fun n => Ra ++ Rn i n ++ Rb) (res i) := by
  obtain ⟨k, fa, fd, hF, ⟨hr, hgd⟩, hm, hk, hb⟩ := C.ex
  obtain ⟨t, a1, a2⟩ := ha
  subst hR
  refine ⟨fun σ H Q => t σ H fun vs H1 => spJ K pre as Rs Rn res vs H1 Q E0, fun j => ?_, fun S σ H Q q kk => a2 S σ H _ q fun vs S1 H1 e1 q1 r1 => ?_⟩
  · refine pe_shown (k := k) (fa := fa) (fd := fd) (ps := ps) ?_ (by rw [F.fA j]; exact hr) (by rw [F.fA j]; exact hgd) (hg j) (by rw [F.fmg j]; exact hm) (by rw [F.fK j]; exact hk) (by rw [F.fK j]; exact hb) (a1 j) hdb (he j) (hpl j)
    rw [F.fP j, F.fw j, F.fK j, F.fmg j, F.fbase j]
    exact hF
  · obtain ⟨Os, hOs, hgive⟩ := q1.give
    exact ⟨i, S1, Os, hpre, q1.sub, r1, hOs, fun n v S' H' Os' hfr hsub hext hnew hown hO hres => kk n v S' H' (e1.trans hext) (hgive _ S' H' Os' hfr hsub hext hnew hown hO) hres⟩
/-- a body in which things are shown -/
abbrev BodyD (P : Program) (w : World) (K : PySem.W.Frag) (mg : Str → Option Value) (base : Heap) (N : List Str) (qual : Str) (st : Stmt) (fa : Addr) (k : Nat) {ν : Type} (as : List Sl) (Rs : List Res) (Rn : ν → List Res) (res : ν → Sl) : Prop :=
  ∀ (cdv : Value) (A : Around) (outer : List Env) (s : Shared) (H S0 : Hp) (A0 : Addr → Prop) (E : XK) (Q : VK), Room k (A.deeper (envOfC qual (defScope st) s.heap.objs.size fa cdv)) → (A.deeper (envOfC qual (defScope st) s.heap.objs.size fa cdv)).guards = some [] → Fam (FX P w K mg base N qual st fa cdv A outer s H E) P w K mg base (A.deeper (envOfC qual (defScope st) s.heap.objs.size fa cdv)) N →
    RetOk K ⟨H, S0, A0⟩ Rn res Q → Blk (FX P w K mg base N qual st fa cdv A outer s H E) K ⟨H, S0, A0⟩ S0 (as.map some ++ List.replicate (N.length - as.length) none) Rs (defBody st) { nx := fun _ H' => Q .non H', rt := Q }
theorem fnD {θ : Type} {ν : θ → Type} {pre : θ → Prop} {as : θ → List Sl} {Rs : θ → List Res} {Rn : ∀ i, ν i → List Res} {res : ∀ i, ν i → Sl} {x qual : Str} {st : Stmt} {fa : Addr} {fd : FuncData} {k : Nat} (F : Fun K x qual st fa fd) (Sc : FnScope N ps (defScope st)) (hl : ∀ i, (as i).length = ps.length)
    (hb : ∀ i, pre i → BodyD P w K mg base N qual st fa k (as i) (Rs i) (Rn i) (res i)) : FnG P w K mg base CX0 (k + 1) fa fd ps (spJ K pre as Rs Rn res) := by
  refine FnG.of_body F Sc (fun vs H Q E ⟨i, S0, Os, h1, h2, h3, h4, h5⟩ => by rw [← h3.len]; exact hl i) (fun cdv A outer s H vs Q E hr hg ⟨i, S0, Os, h1, h2, h3, h4, h5⟩ => ?_)
  obtain ⟨t, t1, t2⟩ := hb i h1 cdv A outer s H S0 (InOs Os) E Q hr hg (fam_fx Sc) (fun n Γ S σ H' v q r => by
    obtain ⟨Os', g1, g2⟩ := q.own
    exact h5 n v S H' Os' q.fr q.sub q.ext q.new g1 (fun O hO a ha => g2 O hO a ha) r)
  refine ⟨t, (t1 ()).nox, t2 S0 _ H (Same.refl _) ⟨h2, Same.refl _, fun _ _ e _ => e, fun a ha => .inl ha, ⟨Os, h4, fun O hO a ha => .inl ⟨O, hO, ha⟩⟩, ?_⟩⟩
  unfold L2.start
  rw [h3.len]
  exact (slots_args h3).app (replicate_slots _)
end
/-! ### the law's end -/
theorem law_shown {P : Program} {w : World} {K : PySem.W.Frag} {mg mb : Str → Option Value} {k : Nat} {fa a : Addr} {fd : FuncData} {x : Str} {sp : Sp} {s₁ : Shared} {vs : List Value} {ns : List Int}
    (KX : K.In s₁.heap) (hns : s₁.heap.Ns mainGlobals mg) (hb : s₁.heap.Ns builtinsNs mb) (hbb : ∀ x : Str, x ≠ "__name__" → mb x = bootBuiltins x) (hlim : s₁.heap.NoLimit) (hgen : s₁.gens = #[])
    (ha : s₁.heap.get? a = some { cls := .type "list", data := .seq vs.toArray }) (hi : IntsAre vs ns) (hl : ns.length ≤ sizeLine) (hr : Room k callerA)
    (F : ∀ base : Heap, K.In base → base.Ns mainGlobals mg → FnG P w K mg base CX0 k fa fd [x] sp) (hbind : ∀ (s : Shared) (u : Value), BindsTo s fd ⟨[u], []⟩ [(x, u)])
    (hsp : ∀ H : Hp, Only H → SqL K H a (ns.map V.int) → sp [.ref a] H (fun v _ => v = .bl true) fun _ _ _ => False) :
    codeAny (model P w) callerA (.call (.ref fa) ⟨[.ref a], []⟩) (fun r s' => r = .ok (.ret (.bool true)) ∧ OldK s₁.heap s'.heap ∧ s'.os = s₁.os ∧ AllBare s'.gens) s₁ := by
  have rv := vals_ints hi
  have main : ∀ H : Hp, Only H → SqL K H a (ns.map V.int) → HOk P w H s₁.heap → (∀ b, H b ≠ none → b = a ∧ K.lookup a = none) →
      codeAny (model P w) callerA (.call (.ref fa) ⟨[.ref a], []⟩) (fun r s' => r = .ok (.ret (.bool true)) ∧ OldK s₁.heap s'.heap ∧ s'.os = s₁.os ∧ AllBare s'.gens) s₁ := fun H hO hS hok hA => by
    have free : ∀ {b : Addr}, b ≠ a → H b = none := fun {b} hne => by
      cases q : H b with
      | none => rfl
      | some u => exact absurd (hA b (by rw [q]; exact fun z => nomatch z)).1 hne
    have notA : ∀ {b : Addr} {o : Obj} {es : Array DictEntry} {ep : Nat}, s₁.heap.get? b = some o → o.data = .dict es ep → b ≠ a := fun {b o es ep} e d z => by
      subst z
      rw [ha] at e
      cases e
      exact nomatch d
    have ns' : ∀ {b : Addr} {m : Str → Option Value}, s₁.heap.Ns b m → (hidT s₁.heap H).Ns b m := fun {b m} ⟨o, es, ep, e, d, r⟩ => ⟨o, es, ep, hidT_get e (free (notA e d)), d, r⟩
    have inB : K.In (hidT s₁.heap H) := fun b o e => hidT_get (KX b o e) (by
      cases q : H b with
      | none => rfl
      | some u =>
        obtain ⟨z1, z2⟩ := hA b (by rw [q]; exact fun z => nomatch z)
        subst z1
        rw [z2] at e
        cases e)
    obtain ⟨mc, l1, l2⟩ := hlim
    have env : Env0 P w K mg (hidT s₁.heap H) callerA [] s₁ H := ⟨rfl, ⟨inB, ns' hns, ⟨mb, ns' hb, hbb⟩, ⟨mc, ns' l1, l2⟩⟩, fun b o e => of_hidT e, Nat.le_of_eq (hidT_size _ _), trivial, (fun b hb => by have hb' : b ∈ ([] : List Addr) := hb; simp at hb'), hok, .of_eq hgen⟩
    refine codeAny_mono ((F _ inB (ns' hns)).go callerA [] s₁ H ⟨[.ref a], []⟩ [.ref a] [.ref a] _ _ hr rfl env (hbind s₁ (.ref a)) (.cons rfl .nil) (hsp H hO hS)) fun r s' h => ?_
    match r, h with
    | .error _, h => exact h.elim
    | .ok .next, h => exact h.elim
    | .ok .brk, h => exact h.elim
    | .ok .cont, h => exact h.elim
    | .ok (.ret u), ⟨v, H', os, bare, un, hok', r', q⟩ =>
      obtain rfl : v = .bl true := q
      obtain rfl : u = Value.bool true := r'
      refine ⟨rfl, OldK.of_keep fun b o e => ?_, os, bare⟩
      cases q : H b with
      | none => exact un.keep b o e q (fun z => by have z' : b ∈ ([] : List Addr) := z; simp at z') (by simp)
      | some u =>
        rcases hO b with z | ⟨ob, xs, z⟩
        · rw [q] at z; cases z
        · obtain ⟨e1, _⟩ := hok b _ z
          obtain ⟨e2, _⟩ := hok' b _ (un.frzs b ob _ z)
          rw [e] at e1
          cases e1
          exact e2
  by_cases hk : K.lookup a = none
  · refine main (fun b => if b = a then some (.frz { cls := .type "list", data := .seq vs.toArray } (.lst (ns.map V.int))) else none) (fun b => ?_) (.inl (.inr ⟨{ cls := .type "list", data := .seq vs.toArray }, if_pos rfl⟩)) (fun b u z => ?_) (fun b z => ⟨?_, hk⟩)
    · by_cases e : b = a
      · exact .inr ⟨_, _, if_pos e⟩
      · exact .inl (if_neg e)
    · by_cases e : b = a
      · have z2 := (if_pos e).symm.trans z
        cases z2
        subst e
        exact ⟨ha, by rw [List.length_map]; exact hl, vs, _, rv, ha⟩
      · exact nomatch (if_neg e).symm.trans z
    · by_cases e : b = a
      · exact e
      · exact absurd (if_neg e) z
  · obtain ⟨o, ho⟩ := Option.ne_none_iff_exists'.mp hk
    have e := KX a o ho
    rw [ha] at e
    cases e
    exact main (fun _ => none) (fun _ => .inl rfl) (.inr ⟨_, vs.toArray, _, ho, rfl, rfl, rfl, by rw [List.size_toArray, hi.length]; exact hl, by simpa using rv⟩) (fun b u z => nomatch z) (fun b z => absurd rfl z)
theorem walk_shown {l : PySem.W.OpenLaw} {n k : Nat} {q : Program} {loose : List Str} {XP : (Str → Option Value) → Heap → Prop} {YP : World → Heap → Prop} {d : DefRec} {K : Params → PySem.W.Frag} {sp : World → Sp} {x : Str}
    (hn : l.most = some n) (hn2 : n ≤ sizeLine) (hdf : d.params.defaults = []) (hr : Room k callerA) (hY : ∀ (w : World) (h : Heap), YP w h → (K w.params).In h)
    (F : ∀ (w : World) (mg : Str → Option Value) (fa : Addr) (h : Heap), (K w.params).In h → h.Ns mainGlobals mg → mg d.name = some (.ref fa) →
      ∃ fd : FuncData, (∀ (s : Shared) (u : Value), BindsTo s fd ⟨[u], []⟩ [(x, u)]) ∧ ∀ base : Heap, (K w.params).In base → base.Ns mainGlobals mg → FnG l.prog w (K w.params) mg base CX0 k fa fd [x] (sp w))
    (hsp : ∀ (w : World) (H : Hp) (a : Addr) (ns : List Int), ns.length ≤ n → Only H → SqL (K w.params) H a (ns.map V.int) → sp w [.ref a] H (fun v _ => v = .bl true) fun _ _ _ => False) :
    PySem.W.WalkO q loose XP YP l.row.toRowW d [] (fun f vs => PySem.call f vs) := by
  refine Att.attach_call hn hdf fun w s₀ s₁ mg mb fa o pm cd doc a vs ns G Y ho hd hcd hmg hobj hints hlen hgen => ?_
  obtain ⟨fd, hbind, hF⟩ := F w mg fa _ (hY w _ Y) G.T.g hmg
  exact law_shown (hY w _ Y) G.T.g G.T.b G.T.builtins G.T.nolimit hgen hobj hints (Nat.le_trans hlen hn2) hr hF hbind fun H hO hS => hsp w H a ns hlen hO hS
/-! ### repr -/
def rShow (K : PySem.W.Frag) : List V → Hp → VK → Prop := fun vs H Q => ∃ (a : Addr) (d : PyData), vs = [.ref a] ∧ Dp K H (.ref a) d ∧ d.showable = true ∧ d.hasDict = false ∧ d.shown.length ≤ 16777216 ∧ d.depth ≤ 32 ∧ Q (.str d.shown) H
theorem cr_show {X : Cx} (hgd : X.A.guards = some []) (hu : X.A.units + 64 < cLine) : CallR X (.builtin "repr") (rShow X.K) := by
  intro pins s σ H vs us Q I r h
  obtain ⟨a, d, rfl, hd, hs, hnd, hsz, hdp, q⟩ := h
  obtain ⟨u, rfl, ru⟩ := vals1 r
  obtain rfl : u = Value.ref a := ru
  obtain ⟨as, hr⟩ := Dp.reads I d (.ref a) (.ref a) hd rfl
  exact repr_of_reads' hr hs (PyData.noDict_hsm hnd) hgd (by omega) (fun b o e => e) (fun h' u tk hk => ⟨.str d.shown, H, I.kept (t' := tk) hk, ⟨u, rfl⟩, q⟩) (by rw [sizeLine_eq]; exact hsz)
section
variable {ι : Type} {X : ι → Cx} {K : PySem.W.Frag} {E : Ent} {R : List Res} {s1 : Sl} {P : Program} {w : World} {mg : Str → Option Value} {base : Heap} {A : Around} {N : List Str}
theorem cl_show {k : Nat} (F : Fam X P w K mg base A N) (hr : Room k A) (hgd : A.guards = some []) {d : PyData} (h : DV K R s1 d) (href : ∀ S v, s1.r K S v → ∃ a, v = .ref a) (hs : d.showable = true) (hnd : d.hasDict = false) (hsz : d.shown.length ≤ 16777216) (hdp : d.depth ≤ 32) : ClJ X K E (.builtin "repr") R [s1] (dS d.shown) :=
  ⟨rShow K, fun n => by rw [← F.fK n]; exact cr_show (by rw [F.fA n]; exact hgd) (by rw [F.fA n]; exact hr.units), fun Γ S σ H vs Q q r k => by
    obtain ⟨v, rfl, r1⟩ := all2_one r
    obtain ⟨a, rfl⟩ := href S v r1
    exact ⟨a, d, rfl, (h E Γ S σ H _ q r1).1, hs, hnd, hsz, hdp, k _ S H (Same.refl _) q rfl⟩⟩
theorem ref_sv {p : Addr} : ∀ S v, (sv (.ref p)).r K S v → ∃ a, v = .ref a := fun S v h => ⟨p, h⟩
theorem ref_l {ds : List PyData} : ∀ S v, (sd (.list ds)).r K S v → ∃ a, v = .ref a := fun S v h => by cases h; exact ⟨_, rfl⟩
theorem ref_t {ds : List PyData} : ∀ S v, (sd (.tuple ds)).r K S v → ∃ a, v = .ref a := fun S v h => by cases h; exact ⟨_, rfl⟩
theorem ref_s {ss : List Sl} : ∀ S v, (stup ss).r K S v → ∃ a, v = .ref a := fun S v ⟨p, _, h, _⟩ => ⟨p, h⟩
end
end SL

/-! things that are shown: small ones -/
namespace SL
open PySem PySem.Spec PyProof.Rows L2
/-- data that may be shown, of weight at most n -/
structure ShD (n : Nat) (d : PyData) : Prop where
  s : d.showable = true
  h : d.hasDict = false
  l : d.leavesShort 13 = true
  w : d.weight ≤ n
structure ShA (n : Nat) (ds : List PyData) : Prop where
  s : PyData.showableAll ds = true
  h : PyData.hasDictAll ds = false
  l : PyData.leavesShortAll 13 ds = true
  w : PyData.weightAll ds ≤ n
theorem ShD.mono {n m : Nat} {d : PyData} (h : ShD n d) (hm : n ≤ m) : ShD m d := ⟨h.s, h.h, h.l, Nat.le_trans h.w hm⟩
theorem ShD.fits {n : Nat} {d : PyData} (h : ShD n d) (hn : n ≤ 2 ^ 20) : d.shown.length ≤ 16777216 := by
  have := PyData.shown_fits (by decide) (Nat.le_refl 13) h.l (Nat.le_trans h.w hn)
  rwa [sizeLine_eq] at this
theorem sh_int {i : Int} (h : i.natAbs < 10 ^ 12) : ShD 40 (.int i) := by
  have hl : i.natAbs.log2 < 40 := by
    by_cases h0 : i.natAbs = 0
    · rw [h0]; decide
    · exact (Nat.log2_lt h0).mpr (by omega)
  refine ⟨?_, rfl, ?_, ?_⟩
  · show decide (i.natAbs.log2 < 1920) = true
    exact decide_eq_true (by omega)
  · show decide ((PyData.shown (.int i)).length ≤ 13) = true
    exact decide_eq_true (PyData.shown_int_le h)
  · show (if i == 0 then 0 else i.natAbs.log2 + 1) ≤ 40
    split <;> omega
theorem sh_str {n : Nat} {x : Str} (h : ∀ c ∈ x.cps.toList, c < 16 ^ 8) (hl : x.length ≤ n) : ShD n (.str x) :=
  ⟨rfl, rfl, List.all_eq_true.mpr fun c hc => decide_eq_true (h c hc), hl⟩
theorem aln_small : ∀ c ∈ ALN.cps.toList, c < 16 ^ 8 := by decide +kernel
theorem sh_nm {x : Str} (h : nmOk x) : ShD 9 (.str x) := sh_str (fun c hc => aln_small c (h.2 c hc)) h.1
theorem sh_bool {b : Bool} : ShD 0 (.bool b) := ⟨rfl, rfl, rfl, Nat.le_refl _⟩
theorem sh_none : ShD 0 .none := ⟨rfl, rfl, rfl, Nat.le_refl _⟩
theorem sha_nil : ShA 0 [] := ⟨rfl, rfl, rfl, Nat.le_refl _⟩
theorem sha_cons {n m : Nat} {d : PyData} {ds : List PyData} (h : ShD n d) (r : ShA m ds) : ShA (n + 1 + m) (d :: ds) := by
  refine ⟨?_, ?_, ?_, ?_⟩
  · rw [PyData.showableAll, h.s, r.s]; rfl
  · rw [PyData.hasDictAll, h.h, r.h]; rfl
  · rw [PyData.leavesShortAll, h.l, r.l]; rfl
  · rw [PyData.weightAll]
    have := h.w
    have := r.w
    omega
theorem ShA.mono {n m : Nat} {ds : List PyData} (h : ShA n ds) (hm : n ≤ m) : ShA m ds := ⟨h.s, h.h, h.l, Nat.le_trans h.w hm⟩
theorem sh_tup {n : Nat} {ds : List PyData} (h : ShA n ds) : ShD n (.tuple ds) := ⟨by rw [PyData.showable]; exact h.s, by rw [PyData.hasDict]; exact h.h, by rw [PyData.leavesShort]; exact h.l, by rw [PyData.weight]; exact h.w⟩
theorem sh_list {n : Nat} {ds : List PyData} (h : ShA n ds) : ShD n (.list ds) := ⟨by rw [PyData.showable]; exact h.s, by rw [PyData.hasDict]; exact h.h, by rw [PyData.leavesShort]; exact h.l, by rw [PyData.weight]; exact h.w⟩
theorem sha_map {α : Type} {f : α → PyData} {n : Nat} : ∀ {xs : List α} {L : Nat}, (∀ x ∈ xs, ShD n (f x)) → xs.length ≤ L → ShA (L * (n + 1)) (xs.map f)
  | [], L, _, _ => sha_nil.mono (Nat.zero_le _)
  | x :: xs, 0, _, h => by simp at h
  | x :: xs, L + 1, h, hl => by
    have r := sha_map (xs := xs) (L := L) (fun y hy => h y (List.mem_cons_of_mem _ hy)) (by simpa using hl)
    refine (sha_cons (h x (List.mem_cons_self ..)) r).mono ?_
    rw [Nat.add_mul]
    omega
section
variable {ι : Type} {X : ι → Cx} {K : PySem.W.Frag} {E : Ent} {R : List Res} {s1 : Sl} {P : Program} {w : World} {mg : Str → Option Value} {base : Heap} {A : Around} {N : List Str}
theorem cl_showS {k n : Nat} (F : Fam X P w K mg base A N) (hr : Room k A) (hgd : A.guards = some []) {d : PyData} (h : DV K R s1 d) (href : ∀ S v, s1.r K S v → ∃ a, v = .ref a) (hs : ShD n d) (hdp : dep 32 d) (hn : n ≤ 2 ^ 20 := by decide) : ClJ X K E (.builtin "repr") R [s1] (dS d.shown) :=
  cl_show F hr hgd h href hs.s hs.h (hs.fits hn) hdp
theorem cl_showT {n : Nat} {x : Str} (hs : ShD n (.str x)) (hn : n ≤ 2 ^ 20 := by decide) : ClJ X K E (.builtin "repr") R [dS x] (dS (PyData.shown (.str x))) :=
  ⟨fun vs H Q => vs = [.str x] ∧ Q (.str (PyData.shown (.str x))) H, fun i pins s σ H vs us Q I r h => by
    obtain ⟨rfl, q⟩ := h
    obtain ⟨u, rfl, t, rfl⟩ := vals1 r
    have hz := hs.fits hn
    rw [PyData.shown_str] at q hz
    exact PySem.P.repr_of_str ⟨.str _, H, I.tok _, ⟨_, rfl⟩, q⟩ (by rw [sizeLine_eq]; exact hz), fun Γ S σ H vs Q q r k => by
    obtain ⟨v, rfl, r1⟩ := all2_one r
    cases (show v = .str x from r1)
    exact ⟨rfl, k _ S H (Same.refl _) q rfl⟩⟩
theorem cl_showN : ClJ X K E (.builtin "repr") R [dN] (dS (PyData.shown .none)) :=
  ⟨fun vs H Q => vs = [.non] ∧ Q (.str (PyData.shown .none)) H, fun i pins s σ H vs us Q I r h => by
    obtain ⟨rfl, q⟩ := h
    obtain ⟨u, rfl, ru⟩ := vals1 r
    obtain rfl : u = Value.none := ru
    rw [PyData.shown_none] at q
    exact PySem.P.repr_of_none ⟨.str _, H, I.tok _, ⟨_, rfl⟩, q⟩, fun Γ S σ H vs Q q r k => by
    obtain ⟨v, rfl, r1⟩ := all2_one r
    cases (show v = .non from r1)
    exact ⟨rfl, k _ S H (Same.refl _) q rfl⟩⟩
end
end SL

/-! dicts of whole numbers by names: walked by values, added to, compared -/
namespace SL
open PySem PySem.Spec PyProof.Rows L2
def dcF (ks : List Str) (f : Str → Int) : List (Str × Sl) := ks.map fun x => (x, dI (f x))
theorem lk_dcF {f : Str → Int} {x : Str} : ∀ {ks : List Str}, x ∈ ks → lk (dcF ks f) x = some (dI (f x))
  | [], h => nomatch h
  | k :: ks, h => by
    by_cases e : k = x
    · subst e; exact lk_pos rfl
    · show lk ((k, _) :: dcF ks f) x = _
      rw [lk_neg e]
      exact lk_dcF ((List.mem_cons.mp h).resolve_left fun z => e z.symm)
theorem pt_dcF {f : Str → Int} {x : Str} {v : Int} {ks : List Str} (h : x ∈ ks) : pt (dcF ks f) x (dI v) = dcF ks fun y => if y = x then v else f y := by
  unfold pt
  rw [any_lk, lk_dcF h]
  rw [if_pos (by rfl)]
  unfold dcF
  rw [List.map_map]
  refine List.map_congr_left fun y _ => ?_
  show (if y = x then (y, dI v) else (y, dI (f y))) = (y, dI (if y = x then v else f y))
  split <;> rfl
theorem dcF_len {f : Str → Int} {ks : List Str} : (dcF ks f).length = ks.length := List.length_map ..
theorem dcF_zero {ks : List Str} : allT ks (dI 0) = dcF ks fun _ => 0 := rfl
theorem dcF_eq {f g : Str → Int} {ks : List Str} (h : ∀ x ∈ ks, f x = g x) : dcF ks f = dcF ks g := by
  unfold dcF
  refine List.map_congr_left fun x hx => ?_
  rw [h x hx]
section
variable {ι : Type} {X : ι → Cx} {K : PySem.W.Frag} {E : Ent} {B : Hp} {Γ Γ' : Slots} {R R' R1 R2' R3 Ra Rb Rs : List Res} {a b c e o : Expr} {es : List Expr} {pos p' apos : Pos} {s s1 s2 s3 : Sl} {ss : List Sl}
  {P : Program} {w : World} {mg : Str → Option Value} {base : Heap} {A : Around} {N ps : List Str} {rest sts : List Stmt} {D : Ends} {S S' H H' : Hp} {σ σ' : L2.St} {f : Str} {i j : Int} {x : Str}
theorem it_vals (F : Fam X P w K mg base A N) {tg : Expr} {apos cpos : Pos} (m : Nat) {p : Addr} {od : Obj} {kvs : List (Key × V)} {kss : List (Str × Sl)} (h : EvJ X K E Γ R e R1 (sv (.ref p))) (hk : R1[m]? = some (rDz p od kvs kss))
    (hb : ∀ i, attributeBase e "values" (X i).env (eval e (X i).env) = eval e (X i).env := by exact fun _ => rfl) (hline : (apos.endLine == cpos.line) = true := by rfl) : ItJ X K E Γ R tg (.Call (.Attribute e "values" apos) [] [] cpos) R1 (kss.map (·.2)) (fun R' => R'[m]? = some (rDz p od kvs kss)) := by
  obtain ⟨t, a1, a2⟩ := h
  refine ⟨iVals t, fun i => pi_values (a1 i) (hb i) hline, fun S σ H Rk q k => a2 S σ H _ q fun v S1 H1 e1 q1 r1 => ?_⟩
  cases (show v = .ref p from r1)
  obtain ⟨O, ⟨e2, h1⟩, h2⟩ := q1.res m hk
  subst e2
  refine ⟨p, od, kvs, rfl, h2 p _ hOne_same, k _ S1 H1 e1 q1 fun n Γ' R' S' σ' H' e' q' hC => ?_⟩
  obtain ⟨O, ⟨e3, g1⟩, g2⟩ := q'.res m hC
  subst e3
  have hlen := g1.len
  refine ⟨fun s hs => ?_, fun hn => ⟨g2 p _ hOne_same, by rw [List.length_map] at hn; omega⟩⟩
  rw [List.getElem?_map] at hs
  cases e4 : kss[n]? with
  | none => rw [e4] at hs; cases hs
  | some a =>
    rw [e4] at hs
    cases hs
    obtain ⟨b, e5, e6, e7⟩ := All2.get g1 e4
    refine ⟨⟨g2 p _ hOne_same, (List.getElem?_eq_some_iff.mp e5).1⟩, fun y H'' ⟨z1, k', z2⟩ => ?_⟩
    subst z1
    rw [e5] at z2
    cases z2
    exact ⟨S', Same.refl _, q', e7⟩
/-- o[i] += e, whole numbers in a dict -/
theorem blk_daug {n : Nat} (F : Fam X P w K mg base A N) (hr : Room n A) (k : Nat) {p : Addr} {kss : List (Str × Sl)} {p2 : Pos} {value i : Expr} {u v : Int} (ho : EvJ X K E Γ R o R (sv (.ref p))) (hi : EvJ X K E Γ R i R (dS x)) (hv : EvJ X K E Γ R value R (dI v)) (hk : R[k]? = some (rDs p kss)) (hu : lk kss x = some (dI u)) (hz : kss.length < 10000000)
    (hr' : Blk X K E B Γ (R.set k (rDs p (pt kss x (dI (u + v))))) rest D) (ha : ∀ ov iv new, augStore i ov iv new = (do holding [new, ov, iv] (setItem ov iv new); release [new, ov, iv] []; pure .next) := by intros; rfl) :
    Blk X K E B Γ R (.AugAssign (.Subscript o i p2) .Add value pos :: rest) D := by
  obtain ⟨tv, v1, v2⟩ := hv
  obtain ⟨to, o1, o2⟩ := ho
  obtain ⟨ti, i1, i2⟩ := hi
  obtain ⟨t, g1, g2⟩ := hr'
  refine ⟨tSeq (sDAug to ti tv rAdd) t, fun j => pss_cons (ps_daug (by rw [F.fA j]; have := hr.units; omega) (o1 j) (i1 j) (v1 j) in_add ha) (g1 j), fun S σ H b q => ?_⟩
  refine o2 S σ H _ q fun vo S1 H1 e1 q1 r1 => i2 S1 σ H1 _ q1 fun vi S2 H2 e2 q2 r2 => ?_
  cases (show vo = .ref p from r1)
  cases (show vi = .str x from r2)
  obtain ⟨kvs, h1, h2⟩ := q2.cellD k hk
  rcases h2.val x with ⟨e, _⟩ | ⟨s', z, c1, c2, c3⟩
  · rw [hu] at e; cases e
  rw [hu] at c1
  cases c1
  cases (show z = .int u from c3)
  refine ⟨p, .int u, rfl, by rw [← c2]; exact rd_get (.inl h1) h2 x, ?_⟩
  refine v2 S2 σ H2 _ q2 fun y2 S3 H3 e3 q3 r3 => ?_
  cases (show y2 = .int v from r3)
  refine ⟨u, v, rfl, rfl, ?_⟩
  obtain ⟨kvs3, h3, h4⟩ := q3.cellD k hk
  have hlen := h4.len
  refine ⟨_, DPut.k (k := .inr x) h3 ?_, g2 S3 σ _ (b.trans ((e1.trans e2).trans e3)) (q3.putD k hk (h4.put x (show (dI (u + v)).r K S3 _ from rfl)))⟩
  have : (sizeLine : Nat) = 16777216 := sizeLine_eq
  omega
/-- dicts of whole numbers, compared -/
theorem dct_eq {S1 S2 : Hp} {l : List (Str × Int)} {kss2 : List (Str × Sl)} {k1 k2 : List (Key × V)} (h1 : KRs K S1 (onV dI l) k1) (h2 : KRs K S2 kss2 k2) (h : ∀ a ∈ l, lk kss2 a.1 = some (dI a.2)) : ∀ p ∈ k1, valV k2 p.1 = some p.2 ∧ flatB p.2 = true := by
  induction l generalizing k1 with
  | nil => cases h1; intro p hp; exact nomatch hp
  | cons a l ih =>
    cases h1 with
    | cons g t =>
      intro p hp
      rcases List.mem_cons.mp hp with z | z
      · subst z
        obtain ⟨g1, g2⟩ := g
        have g2' : p.2 = .int a.2 := g2
        rcases h2.val a.1 with ⟨c, _⟩ | ⟨s', u, c1, c2, c3⟩
        · rw [h a (List.mem_cons_self ..)] at c; cases c
        · rw [h a (List.mem_cons_self ..)] at c1
          cases c1
          have c3' : u = .int a.2 := c3
          have g1' : p.1 = .inr a.1 := g1
          rw [g1', c2, c3', g2']
          exact ⟨rfl, rfl⟩
      · exact ih t (fun b hb => h b (List.mem_cons_of_mem _ hb)) p z
theorem br_neDc {n : Nat} (F : Fam X P w K mg base A N) (hr : Room n A) (k1 k2 : Nat) {p1 p2 : Addr} {l : List (Str × Int)} {kss : List (Str × Sl)} (h1 : R[k1]? = some (rDs p1 (onV dI l))) (h2 : R[k2]? = some (rDs p2 kss)) (hl : l.length = kss.length) (h : ∀ a ∈ l, lk kss a.1 = some (dI a.2)) : BinR X K E (compareOp .NotEq) R (sv (.ref p1)) (sv (.ref p2)) (dB false) :=
  ⟨rNeDA, fun j => op_ne_dictA (by rw [F.fA j]; have := hr.units; omega), fun Γ S σ H u y Q q r1 r2 kk => by
    cases (show u = .ref p1 from r1)
    cases (show y = .ref p2 from r2)
    obtain ⟨kv1, c1, c2⟩ := q.cellD k1 h1
    obtain ⟨kv2, d1, d2⟩ := q.cellD k2 h2
    exact ⟨p1, p2, kv1, kv2, rfl, rfl, c1, d1, by rw [← c2.len, ← d2.len, ← hl]; exact List.length_map .., dct_eq c2 d2 h, kk _ S H (Same.refl _) q rfl⟩⟩
theorem dcF_on {ks : List Str} {f : Str → Int} : dcF ks f = onV dI (ks.map fun x => (x, f x)) := by
  unfold dcF onV
  rw [List.map_map]
  rfl
theorem br_neF {n : Nat} (F : Fam X P w K mg base A N) (hr : Room n A) (k1 k2 : Nat) {p1 p2 : Addr} {ks : List Str} {f g : Str → Int} (h1 : R[k1]? = some (rDs p1 (dcF ks f))) (h2 : R[k2]? = some (rDs p2 (dcF ks g))) (h : ∀ x ∈ ks, f x = g x) : BinR X K E (compareOp .NotEq) R (sv (.ref p1)) (sv (.ref p2)) (dB false) :=
  br_neDc F hr k1 k2 (by rw [h1, dcF_on]) h2 (by rw [dcF_len, List.length_map]) fun a ha => by
    obtain ⟨x, hx, rfl⟩ := List.mem_map.mp ha
    rw [lk_dcF hx, h x hx]
/-- f(e, ..), cells handed, of which some are new -/
theorem ev_callGN {θ : Type} {μ : Type} {ν : θ → Type} {pre : θ → Prop} {as : θ → List Sl} {Rs : θ → List Res} {Rn : ∀ i, ν i → List Res} {res : ∀ i, ν i → Sl} (F : Fam X P w K mg base A N) (C : Cal P w K mg base A f ps (spJ K pre as Rs Rn res)) {Rm : μ → List Res} {sm : μ → List Sl} (i : μ → θ) (Ra Rb : μ → List Res) (ha : ArN X K E Γ R (e :: es) Rm sm) (hs : ∀ m, sm m = as (i m)) (hR : ∀ m, Rm m = Ra m ++ Rs (i m) ++ Rb m) (hpre : ∀ m, pre (i m))
    (hg : ∀ i, Gl (X i) f := by exact fun _ => rfl) (he : ∀ i, starEach (e :: es) (X i).env = (false, eval e (X i).env) :: starEach es (X i).env := by exact fun _ => rfl) (hpl : ∀ i, (backTo pos (starEach es (X i).env)).any (·.1) = false := by exact fun _ => rfl) (hdb : (f == ("__debug__" : Str)) = false := by decide) :
    EvN X K E Γ R (.Call (.Name f p') (e :: es) [] pos) (fun (n : (m : μ) × ν (i m)) => Ra n.1 ++ Rn (i n.1) n.2 ++ Rb n.1) (fun n => res (i n.1) n.2) := by
  obtain ⟨CX, k, fa, fd, hF, hr, hm, hk, hb, hx⟩ := C.ex
  obtain ⟨t, a1, a2⟩ := ha
  refine ⟨tCall (spJ K pre as Rs Rn res) [] E0 t, fun j => ?_, fun S σ H Q q kk => a2 S σ H _ q fun m vs S1 H1 e1 q1 r1 => ?_⟩
  · refine pe_call (CX := CX) (k := k) (f := fa) (fd := fd) (ps := ps) (ds := []) ?_ (by rw [F.fA j]; exact hr) (hg j) (by rw [F.fmg j]; exact hm) (by rw [F.fK j]; exact hk) (by rw [F.fK j]; exact hb) .nil (hx _ (F.fP j) (F.fw j)) (a1 j) hdb (he j) (hpl j)
    rw [F.fP j, F.fw j, F.fK j, F.fmg j, F.fbase j]
    exact hF
  · rw [List.append_nil]
    rw [hR m] at q1
    rw [hs m] at r1
    obtain ⟨Os, hOs, hgive⟩ := q1.give
    exact ⟨i m, S1, Os, hpre m, q1.sub, r1, hOs, fun n v S' H' Os' hfr hsub hext hnew hown hO hres => kk ⟨m, n⟩ v S' H' (e1.trans hext) (hgive _ S' H' Os' hfr hsub hext hnew hown hO) hres⟩
end
section
variable {ι : Type} {X : ι → Cx} {K : PySem.W.Frag} {E : Ent} {Γ : Slots} {R R1 : List Res} {e : Expr} {s : Sl}
theorem ty_dict {p : Addr} {kss : List (Str × Sl)} (k : Nat) (h : R[k]? = some (rDs p kss)) : TyS K R (sv (.ref p)) "dict" := fun E Γ S σ H v q r => by
  cases (show v = .ref p from r)
  obtain ⟨kvs, h1, _⟩ := q.cellD k h
  exact .base (.dK h1)
/-- one outcome alone -/
theorem evu {Rn : Unit → List Res} {sn : Unit → Sl} (h : EvN X K E Γ R e Rn sn) : EvJ X K E Γ R e (Rn ()) (sn ()) := let ⟨t, h1, h2⟩ := h; ⟨t, h1, fun S σ H Q q k => h2 S σ H Q q fun _ => k⟩
end
/-! ### lengths -/
def leapF (f : List (Int × Str)) (m : Int × Str) : List (Int × Str) := if f = [] ∨ (f.getLastD (0, "")).1 ≠ m.1 then f ++ [m] else f
def firstsA (ms : List (Int × Str)) : List (Int × Str) := ms.foldl leapF []
def fr : Option Int → List (Int × Str) → List (Int × Str)
  | _, [] => []
  | o, m :: r => if o = some m.1 then fr o r else m :: fr (some m.1) r
def gap : Int → List (Int × Str) → Str → Int
  | _, [], _ => 0
  | a, m :: r, x => (if x = m.2 then m.1 - a else 0) + gap m.1 r x
def lastT : Int → List (Int × Str) → Int
  | a, [] => a
  | _, m :: r => lastT m.1 r
def firstN (ms : List (Int × Str)) (s : Int) : Str := match ms.find? fun m => decide (m.1 ≥ s) with
  | some m => m.2
  | none => (ms.headD (0, "")).2
def cntN (g : Int → Str) (x : Str) (lo : Int) : Nat → Int
  | 0 => 0
  | n + 1 => (if g lo = x then 1 else 0) + cntN g x (lo + 1) n
theorem firsts_fr : ∀ (ms acc : List (Int × Str)), ms.foldl leapF acc = acc ++ fr (if acc = [] then none else some (acc.getLastD (0, "")).1) ms
  | [], acc => by simp [fr]
  | m :: r, acc => by
    rw [List.foldl_cons]
    by_cases h : acc = []
    · subst h
      rw [if_pos rfl]
      show List.foldl leapF (leapF [] m) r = [] ++ fr none (m :: r)
      rw [show leapF [] m = [m] from rfl, firsts_fr r [m], if_neg (by simp)]
      simp [fr]
    · rw [if_neg h]
      by_cases h2 : (acc.getLastD (0, "")).1 = m.1
      · rw [show leapF acc m = acc from by unfold leapF; rw [if_neg (fun z => z.elim h (fun z => z h2))], firsts_fr r acc, if_neg h]
        rw [show fr (some (acc.getLastD (0, "")).1) (m :: r) = fr (some (acc.getLastD (0, "")).1) r from by rw [fr, if_pos (by rw [h2])]]
      · rw [show leapF acc m = acc ++ [m] from by unfold leapF; rw [if_pos (Or.inr h2)], firsts_fr r (acc ++ [m]), if_neg (by simp)]
        rw [show fr (some (acc.getLastD (0, "")).1) (m :: r) = m :: fr (some m.1) r from by rw [fr, if_neg (by intro z; exact h2 (Option.some.inj z))]]
        simp
theorem firsts_eq (ms : List (Int × Str)) : firstsA ms = fr none ms := by
  unfold firstsA
  rw [firsts_fr]
  simp
theorem firsts_app (pre : List (Int × Str)) (m : Int × Str) : firstsA (pre ++ [m]) = leapF (firstsA pre) m := by
  unfold firstsA
  rw [List.foldl_append]
  rfl
theorem fr_sub : ∀ (o : Option Int) (ms : List (Int × Str)), (fr o ms).Sublist ms
  | _, [] => .slnil
  | o, m :: r => by
    rw [fr]
    split
    · exact (fr_sub o r).cons m
    · exact (fr_sub _ r).cons₂ m
abbrev SortT (ms : List (Int × Str)) : Prop := ms.Pairwise fun a b => a.1 ≤ b.1
theorem fr_up : ∀ (o : Option Int) (ms : List (Int × Str)), SortT ms → (∀ t, o = some t → ∀ m ∈ ms, t ≤ m.1) → (fr o ms).Pairwise (fun a b => a.1 < b.1) ∧ ∀ t, o = some t → ∀ m ∈ fr o ms, t < m.1
  | o, [], _, _ => ⟨.nil, fun _ _ _ h => nomatch h⟩
  | o, m :: r, hs, ho => by
    obtain ⟨h1, h2⟩ := List.pairwise_cons.mp hs
    rw [fr]
    split
    · exact fr_up o r h2 fun t e m' hm' => ho t e m' (List.mem_cons_of_mem _ hm')
    · rename_i hne
      obtain ⟨g1, g2⟩ := fr_up (some m.1) r h2 fun t e m' hm' => by cases e; exact h1 m' hm'
      refine ⟨List.pairwise_cons.mpr ⟨fun b hb => g2 m.1 rfl b hb, g1⟩, fun t e m' hm' => ?_⟩
      have h3 := ho t e m (List.mem_cons_self ..)
      have h4 : t ≠ m.1 := fun z => hne (by rw [e, z])
      rcases List.mem_cons.mp hm' with z | z
      · rw [z]; omega
      · have := g2 m.1 rfl m' z
        omega
theorem fr_find (s : Int) : ∀ (o : Option Int) (ms : List (Int × Str)), SortT ms → (∀ t, o = some t → (∀ m ∈ ms, t ≤ m.1) ∧ t < s) → (fr o ms).find? (fun m => decide (m.1 ≥ s)) = ms.find? fun m => decide (m.1 ≥ s)
  | _, [], _, _ => rfl
  | o, m :: r, hs, ho => by
    obtain ⟨h1, h2⟩ := List.pairwise_cons.mp hs
    rw [fr]
    split
    · rename_i e
      have h3 := (ho _ e).2
      rw [List.find?_cons_of_neg (by simp; omega)]
      exact fr_find s o r h2 fun t e' => ⟨fun m' hm' => (ho t e').1 m' (List.mem_cons_of_mem _ hm'), (ho t e').2⟩
    · by_cases h3 : m.1 ≥ s
      · rw [List.find?_cons_of_pos (by simpa using h3), List.find?_cons_of_pos (by simpa using h3)]
      · rw [List.find?_cons_of_neg (by simpa using h3), List.find?_cons_of_neg (by simpa using h3)]
        exact fr_find s (some m.1) r h2 fun t e' => by cases e'; exact ⟨h1, by omega⟩
theorem firstN_firsts {ms : List (Int × Str)} (hs : SortT ms) (s : Int) : firstN (firstsA ms) s = firstN ms s := by
  unfold firstN
  rw [firsts_eq, fr_find s none ms hs (fun t e => nomatch e)]
  have : (fr none ms).headD (0, "") = ms.headD (0, "") := by
    cases ms with
    | nil => rfl
    | cons m r => rw [fr, if_neg (fun z => nomatch z)]; rfl
  rw [this]
theorem cnt_add (g : Int → Str) (x : Str) : ∀ (n m : Nat) (lo : Int), cntN g x lo (n + m) = cntN g x lo n + cntN g x (lo + n) m
  | 0, m, lo => by simp [cntN]
  | n + 1, m, lo => by
    rw [show n + 1 + m = (n + m) + 1 by omega, cntN, cntN, cnt_add g x n m (lo + 1), show lo + 1 + (n : Int) = lo + ((n + 1 : Nat) : Int) by omega]
    omega
theorem cnt_const {g : Int → Str} {x y : Str} : ∀ (n : Nat) (lo : Int), (∀ s, lo ≤ s → s < lo + n → g s = y) → cntN g x lo n = if x = y then (n : Int) else 0
  | 0, lo, _ => by simp [cntN]
  | n + 1, lo, h => by
    rw [cntN, cnt_const (y := y) n (lo + 1) fun s h1 h2 => h s (by omega) (by omega), h lo (by omega) (by omega)]
    by_cases e : x = y
    · rw [if_pos e, if_pos e, if_pos e.symm]; omega
    · rw [if_neg e, if_neg e, if_neg (fun z => e z.symm)]; omega
theorem cnt_congr {g g' : Int → Str} {x : Str} : ∀ (n : Nat) (lo : Int), (∀ s, lo ≤ s → s < lo + n → g s = g' s) → cntN g x lo n = cntN g' x lo n
  | 0, _, _ => rfl
  | n + 1, lo, h => by
    rw [cntN, cntN, h lo (by omega) (by omega), cnt_congr n (lo + 1) fun s h1 h2 => h s (by omega) (by omega)]
/-- the first one at s or behind it, else d -/
def upN (d : Str) (F : List (Int × Str)) (s : Int) : Str := match F.find? fun m => decide (m.1 ≥ s) with
  | some m => m.2
  | none => d
theorem upN_cons {d : Str} {m : Int × Str} {F : List (Int × Str)} {s : Int} : upN d (m :: F) s = if m.1 ≥ s then m.2 else upN d F s := by
  unfold upN
  by_cases h : m.1 ≥ s
  · rw [if_pos h, List.find?_cons_of_pos (by simpa using h)]
  · rw [if_neg h, List.find?_cons_of_neg (by simpa using h)]
theorem upN_end {d : Str} : ∀ {F : List (Int × Str)} {s : Int}, (∀ m ∈ F, m.1 < s) → upN d F s = d
  | [], _, _ => rfl
  | m :: F, s, h => by
    have := h m (List.mem_cons_self ..)
    rw [upN_cons, if_neg (by omega)]
    exact upN_end fun m' hm' => h m' (List.mem_cons_of_mem _ hm')
theorem last_ge : ∀ {F : List (Int × Str)} {a : Int}, F.Pairwise (fun a b => a.1 < b.1) → (∀ m ∈ F, a < m.1) → a ≤ lastT a F ∧ ∀ m ∈ F, m.1 ≤ lastT a F
  | [], a, _, _ => ⟨Int.le_refl _, fun _ h => nomatch h⟩
  | m :: F, a, h, ha => by
    obtain ⟨h1, h2⟩ := List.pairwise_cons.mp h
    obtain ⟨g1, g2⟩ := last_ge (a := m.1) h2 h1
    have := ha m (List.mem_cons_self ..)
    show a ≤ lastT m.1 F ∧ _
    refine ⟨by omega, fun m' hm' => ?_⟩
    show m'.1 ≤ lastT m.1 F
    rcases List.mem_cons.mp hm' with z | z
    · rw [z]; exact g1
    · exact g2 m' z
theorem gap_cnt {d x : Str} : ∀ {F : List (Int × Str)} {a : Int}, F.Pairwise (fun a b => a.1 < b.1) → (∀ m ∈ F, a < m.1) → cntN (upN d F) x (a + 1) (lastT a F - a).toNat = gap a F x
  | [], a, _, _ => by show cntN _ x _ (a - a).toNat = 0; rw [Int.sub_self]; rfl
  | m :: F, a, h, ha => by
    obtain ⟨h1, h2⟩ := List.pairwise_cons.mp h
    have hm := ha m (List.mem_cons_self ..)
    obtain ⟨g1, g2⟩ := last_ge (a := m.1) h2 h1
    show cntN _ x _ (lastT m.1 F - a).toNat = (if x = m.2 then m.1 - a else 0) + gap m.1 F x
    rw [show (lastT m.1 F - a).toNat = (m.1 - a).toNat + (lastT m.1 F - m.1).toNat by omega, cnt_add]
    rw [cnt_const (y := m.2) (m.1 - a).toNat (a + 1) fun s k1 k2 => by rw [upN_cons, if_pos (by omega)]]
    rw [show a + 1 + ((m.1 - a).toNat : Int) = m.1 + 1 by omega, cnt_congr (g' := upN d F) _ (m.1 + 1) fun s k1 k2 => by rw [upN_cons, if_neg (by omega)], gap_cnt h2 h1]
    rw [show ((m.1 - a).toNat : Int) = m.1 - a by omega]
theorem gap_app (x : Str) (m : Int × Str) : ∀ (pre : List (Int × Str)) (a : Int), gap a (pre ++ [m]) x = gap a pre x + if x = m.2 then m.1 - lastT a pre else 0
  | [], a => by simp [gap, lastT]
  | p :: pre, a => by
    rw [List.cons_append, gap, gap, gap_app x m pre p.1, lastT]
    omega
theorem lastT_app (m : Int × Str) : ∀ (pre : List (Int × Str)) (a : Int), lastT a (pre ++ [m]) = m.1
  | [], a => rfl
  | p :: pre, a => lastT_app m pre p.1
theorem lastT_d : ∀ {F : List (Int × Str)} {a : Int} {d : Int × Str}, F ≠ [] → lastT a F = (F.getLastD d).1
  | [], _, _, h => absurd rfl h
  | [m], _, _, _ => rfl
  | m :: p :: F, a, d, _ => by
    show lastT m.1 (p :: F) = _
    rw [lastT_d (d := d) (by simp)]
    rfl
/-- what the steps come to is what is counted spot by spot -/
theorem gap_all {ms : List (Int × Str)} {size : Int} (hs : SortT ms) (hne : ms ≠ []) (hb : ∀ m ∈ ms, 0 ≤ m.1 ∧ m.1 < size) (x : Str) : gap (((firstsA ms).getLastD (0, "")).1 - size) (firstsA ms) x = cntN (firstN ms) x 0 size.toNat := by
  have hup := (fr_up none ms hs fun t e => nomatch e).1
  rw [← firsts_eq] at hup
  have hmem : ∀ m ∈ firstsA ms, 0 ≤ m.1 ∧ m.1 < size := fun m hm => hb m (by rw [firsts_eq] at hm; exact (fr_sub none ms).subset hm)
  rw [cnt_congr (g' := firstN (firstsA ms)) _ _ fun s _ _ => (firstN_firsts hs s).symm]
  have hne2 : firstsA ms ≠ [] := by
    rw [firsts_eq]
    cases ms with
    | nil => exact absurd rfl hne
    | cons m r => rw [fr, if_neg (fun z => nomatch z)]; simp
  generalize firstsA ms = F at *
  cases F with
  | nil => exact absurd rfl hne2
  | cons m F =>
    have hm := hmem m (List.mem_cons_self ..)
    have h1 : ∀ p ∈ m :: F, (-1 : Int) < p.1 := fun p hp => by have := hmem p hp; omega
    obtain ⟨g1, g2⟩ := last_ge hup h1
    have hl : lastT (-1) (m :: F) < size := by
      rw [lastT_d (d := (0, "")) (by simp)]
      have : (m :: F).getLastD (0, "") ∈ m :: F := by
        rw [List.getLastD_eq_getLast?, List.getLast?_eq_some_getLast (by simp)]
        exact List.getLast_mem _
      exact (hmem _ this).2
    rw [← lastT_d (a := -1) (by simp)]
    have e1 : firstN (m :: F) = upN m.2 (m :: F) := rfl
    rw [e1, show size.toNat = (lastT (-1) (m :: F) - (-1)).toNat + (size - 1 - lastT (-1) (m :: F)).toNat by omega, cnt_add]
    have e2 := gap_cnt (d := m.2) (x := x) hup h1
    rw [show (-1 : Int) + 1 = 0 from rfl] at e2
    rw [e2, cnt_const (y := m.2) _ _ fun s k1 k2 => upN_end fun p hp => by have := g2 p hp; omega]
    rw [gap, gap]
    by_cases e : x = m.2
    · rw [if_pos e, if_pos e, if_pos e]; omega
    · rw [if_neg e, if_neg e, if_neg e]; omega
theorem cnt_snoc (g : Int → Str) (x : Str) (n : Nat) : cntN g x 0 (n + 1) = cntN g x 0 n + if g n = x then 1 else 0 := by
  rw [cnt_add]
  simp [cntN]
theorem marks_sorted {sv : List (Str × Int)} {size : Int} : SortT (marksA sv size) := by
  have := List.pairwise_mergeSort leM_trans leM_total (marksOf sv size)
  refine this.imp fun {a b} h => ?_
  unfold leM at h
  simp at h
  omega
theorem firstN_mem {ms : List (Int × Str)} (h : ms ≠ []) (s : Int) : firstN ms s ∈ ms.map (·.2) := by
  unfold firstN
  split
  · rename_i m e
    exact List.mem_map.mpr ⟨m, List.mem_of_find?_eq_some e, rfl⟩
  · cases ms with
    | nil => exact absurd rfl h
    | cons m r => simp
theorem firsts_mem {ms : List (Int × Str)} {m : Int × Str} (h : m ∈ firstsA ms) : m ∈ ms := by rw [firsts_eq] at h; exact (fr_sub none ms).subset h
theorem firsts_len (ms : List (Int × Str)) : (firstsA ms).length ≤ ms.length := by rw [firsts_eq]; exact (fr_sub none ms).length_le
theorem firsts_ne {ms : List (Int × Str)} (h : ms ≠ []) : firstsA ms ≠ [] := by
  rw [firsts_eq]
  cases ms with
  | nil => exact absurd rfl h
  | cons m r => rw [fr, if_neg (fun z => nomatch z)]; simp
end SL

/-! while; max of a list, list.count, x in a list of whole numbers; what dealing comes to -/
namespace SL
open PySem PySem.Spec PyProof.Rows L2
section
variable {ι : Type} {X : ι → Cx} {K : PySem.W.Frag} {E : Ent} {B : Hp} {Γ Γ' : Slots} {R R' R1 R2' R3 Ra Rb Rs : List Res} {a b c e o : Expr} {es : List Expr} {pos p' apos : Pos} {s s1 s2 s3 : Sl} {ss : List Sl}
  {P : Program} {w : World} {mg : Str → Option Value} {base : Heap} {A : Around} {N ps : List Str} {rest sts bd : List Stmt} {D : Ends} {S S' H H' : Hp} {σ σ' : L2.St} {f : Str} {i j : Int} {x : Str}
theorem pt_any {Y : Cx} {ν : Type} {u : ν → TT} (h : ∀ n, PT Y e (u n)) : PT Y e (fun σ H Q => ∃ n, u n σ H Q) := ⟨fun pins s σ H Q I ⟨n, q⟩ => (h n).run pins s σ H Q I q⟩
theorem blk_whileX {γ : Type} (I : γ → Prop) (μ : γ → Nat) (k : γ → Bool) (G : γ → Slots) (RR : γ → List Res) (F : Fam X P w K mg base A N) (hp : ∀ i, PassesOwn (model (X i).prog (X i).w) (X i).A (X i).env (X i).xe)
    (g0 : γ) (hI0 : I g0) (h0 : ∀ S σ H, SR K E Γ R S σ H → SR K E (G g0) (RR g0) S σ H) (hc : ∀ g, I g → TeJ X K E (G g) (RR g) c (k g))
    (hb : ∀ g B' (Z : L2.St → Hp → Prop), I g → k g = true → Blk X K E B' (G g) (RR g) bd { nx := PstX K E B' (fun g' => I g' ∧ μ g' < μ g) G RR, rt := D.rt, bk := Z, ct := PstX K E B' (fun g' => I g' ∧ μ g' < μ g) G RR })
    (hr : ∀ g, I g → k g = false → Blk X K E B (G g) (RR g) rest D) : Blk X K E B Γ R (.While c bd [] pos :: rest) D := by
  have hc' := fun (n : { g : γ // I g }) => Classical.choose_spec (hc n.1 n.2)
  have hr' := fun (n : { g : γ // I g ∧ k g = false }) => Classical.choose_spec (hr n.1 n.2.1 n.2.2)
  have hb' := fun (n : { q : γ × Hp × (L2.St → Hp → Prop) // I q.1 ∧ k q.1 = true }) => Classical.choose_spec (hb n.1.1 n.1.2.1 n.1.2.2 n.2.1 n.2.2)
  refine ⟨tSeq (tWhile _ _) _, fun i => pss_cons (ps_while (hp i) (pt_any fun n => (hc' n).1 i) (pss_any fun n => (hb' n).1 i)) (pss_any fun n => (hr' n).1 i), fun S σ H b q => ?_⟩
  refine ⟨fun m σ H => ∃ g, I g ∧ μ g = m ∧ ∃ S', Same S S' ∧ SR K E (G g) (RR g) S' σ H, ⟨μ g0, g0, hI0, rfl, S, Same.refl _, h0 S σ H q⟩, ?_⟩
  rintro m σ2 H2 ⟨g, hIg, rfl, S2, e2, q2⟩
  refine ⟨⟨g, hIg⟩, (hc' ⟨g, hIg⟩).2 S2 σ2 H2 _ q2 fun S3 H3 e3 q3 => ?_⟩
  cases hk : k g with
  | true =>
    rw [if_pos rfl]
    refine ⟨PstX K E S3 (fun g' => I g' ∧ μ g' < μ g) G RR, fun σ' H' ⟨g', ⟨hI', hμ⟩, S', e', q'⟩ => ⟨μ g', hμ, g', hI', rfl, S', (e2.trans e3).trans e', q'⟩, ?_⟩
    exact ⟨⟨(g, S3, _), hIg, hk⟩, (hb' ⟨(g, S3, _), hIg, hk⟩).2 S3 σ2 H3 (Same.refl _) q3⟩
  | false =>
    rw [if_neg (by decide)]
    exact ⟨⟨g, hIg, hk⟩, (hr' ⟨g, hIg, hk⟩).2 S3 σ2 H3 (b.trans (e2.trans e3)) q3⟩
theorem cl_maxL (F : Fam X P w K mg base A N) {ds : List PyData} {m : Int} (h : LV K R s1 ds) (ha : ds.all isI = true) (hm : m ∈ ds.map dint) (hle : ∀ y ∈ ds.map dint, y ≤ m) (hcm : ∀ i, (X i).calm = true := by exact fun _ => rfl) : ClJ X K E (.builtin "max") R [s1] (dI m) :=
  ⟨rMax K, fun n => by rw [← F.fK n]; exact cr_max (hcm n), fun Γ S σ H vs Q q r k => by
    obtain ⟨v, rfl, r1⟩ := all2_one r
    obtain ⟨p, us, rfl, h1, h2⟩ := h E Γ S σ H v q r1
    rw [da_ints ha h2] at h1
    refine ⟨p, _, rfl, SqL.of h1, ?_, fun m' h3 h4 => ?_⟩
    · exact List.length_pos_iff.mpr fun z => by rw [z] at hm; exact nomatch hm
    · have e : m' = m := by
        have a1 := h4 m hm
        have a2 := hle m' h3
        omega
      subst e
      exact k _ S H (Same.refl _) q rfl⟩
theorem ev_count (F : Fam X P w K mg base A N) {ds : List PyData} {apos : Pos} (ho : EvJ X K E Γ R o R s1) (hl : LV K R s1 ds) (had : ds.all isI = true) (ha : EvJ X K E Γ R e R (dI i))
    (hbase : ∀ i, attributeBase o "count" (X i).env (eval o (X i).env) = eval o (X i).env := by exact fun _ => rfl)
    (hfew : ∀ i, ((backTo pos (starEach [e] (X i).env)).all (fun x => !x.1) && (backToKw pos (keywordEach [] (X i).env)).all (fun x => x.1.isSome) && decide ([e].length + ([] : List Keyword).length + (if ([] : List Keyword).isEmpty then 0 else 1) < 30)) = true := by exact fun _ => rfl)
    (hline : (apos.endLine == pos.line) = true := by rfl) (hst : ∀ i, starEach [e] (X i).env = (false, eval e (X i).env) :: starEach [] (X i).env := by exact fun _ => rfl) (hplain : ∀ i, (backTo pos (starEach [] (X i).env)).any (·.1) = false := by exact fun _ => rfl) :
    EvJ X K E Γ R (.Call (.Attribute o "count" apos) [e] [] pos) R (dI ((ds.map dint).count i : Nat)) := by
  refine ev_mt F PySem.F.plainAttrs_list PySem.F.slot_list_count PySem.F.type_list_count ho (ar_cons ha ar_nil hst) ⟨rCntI K, fun n => by rw [← F.fK n]; exact mt_lcount, fun Γ S σ H v q r => tyL hl q r, fun Γ S σ H v xs Q q r1 r2 k' => ?_⟩ hbase hfew hline hst hplain
  obtain ⟨u, rfl, r3⟩ := all2_one r2
  cases (show u = .int i from r3)
  obtain ⟨p, vs, rfl, g1, g2⟩ := hl E Γ S σ H v q r1
  rw [da_ints had g2] at g1
  exact ⟨p, _, i, rfl, rfl, SqL.of g1, k' _ S H (Same.refl _) q rfl⟩
theorem inV_ints (ns : List Int) : inV (.int i) (ns.map V.int) = decide (i ∈ ns) := by
  unfold inV
  rw [List.any_map, Bool.eq_iff_iff, List.any_eq_true, decide_eq_true_eq]
  constructor
  · rintro ⟨y, hy, h⟩
    have : y = i := eq_of_beq h
    rw [← this]; exact hy
  · intro h
    exact ⟨i, h, beq_self_eq_true i⟩
theorem br_ninI (F : Fam X P w K mg base A N) {ds : List PyData} (h : LV K R s2 ds) (ha : ds.all isI = true) : BinR X K E (compareOp .NotIn) R (dI i) s2 (dB (!decide (i ∈ ds.map dint))) :=
  ⟨rIn K true, fun n => by rw [← F.fK n]; exact op_notIn_seq, fun Γ S σ H u y Q q r1 r2 k => by
    cases (show u = .int i from r1)
    obtain ⟨p, vs, rfl, h1, h2⟩ := h E Γ S σ H y q r2
    rw [da_ints ha h2] at h1
    exact ⟨p, _, rfl, .inl (SqL.of h1), rfl, List.all_eq_true.mpr fun z hz => by obtain ⟨t, _, rfl⟩ := List.mem_map.mp hz; rfl, k _ S H (Same.refl _) q (by rw [← inV_ints]; rfl)⟩⟩
/-- over a tuple of data -/
theorem it_tupD (F : Fam X P w K mg base A N) {tg : Expr} {ds : List PyData} (h : EvJ X K E Γ R e R1 (sd (.tuple ds))) : ItJ X K E Γ R tg e R1 (ds.map sl) CAny := by
  obtain ⟨t, a1, a2⟩ := h
  refine ⟨iTup K t, fun i => by rw [← F.fK i]; exact pi_tup (a1 i), fun S σ H Rk q k => a2 S σ H _ q fun v S1 H1 e1 q1 r1 => ?_⟩
  cases r1 with
  | tup h1 h2 =>
    rename_i p vs
    refine ⟨p, rfl, ⟨vs, same_t q1.sub h1⟩, k _ S1 H1 e1 q1 fun n Γ' R' S' σ' H' e' q' hC => ?_⟩
    have g1 : SqT K H' p vs := same_t q'.sub (same_t e' h1)
    have g2 := daAll_same e' h2
    refine ⟨fun s hs => ?_, fun hn => ⟨vs, g1, by rw [List.length_map] at hn; rw [daAll_len g2]; exact hn⟩⟩
    rw [List.getElem?_map] at hs
    cases e2 : ds[n]? with
    | none => rw [e2] at hs; cases hs
    | some d =>
      rw [e2] at hs
      cases hs
      obtain ⟨x, hx, hd⟩ := daAll_get' g2 e2
      refine ⟨⟨vs, x, g1, hx⟩, fun y H'' ⟨z1, z2⟩ => ?_⟩
      subst z1
      have := z2 vs g1
      rw [hx] at this
      cases this
      exact ⟨S', Same.refl _, q', sl_da.mpr hd⟩
end
/-! ### sums and greatest ones by places -/
def sumF (f : Nat → Int) : Nat → Int
  | 0 => 0
  | n + 1 => sumF f n + f n
abbrev SC : Int := 232792560
def dueF (h w g : Nat → Int) : Nat → Int
  | 0 => 0
  | n + 1 => if 0 < g n then max (dueF h w g n) ((h n + g n) * (SC / w n)) else dueF h w g n
def heavF (h w g : Nat → Int) : Nat → Int × Int
  | 0 => (0, 1)
  | n + 1 => if 0 < g n ∧ (heavF h w g n).1 * w n < (h n + g n) * (heavF h w g n).2 then (h n + g n, w n) else heavF h w g n
def belF (h w c : Nat → Int) (K : Int) (n : Nat) : Int := sumF (fun k => max 0 (min (c k) ((K - 1) / (SC / w k)) - h k)) n
theorem sumF_rng (f : Nat → Int) : ∀ n, ((List.range n).map f).sum = sumF f n
  | 0 => rfl
  | n + 1 => by rw [List.range_succ, List.map_append, List.sum_append, sumF_rng f n]; simp [sumF]
theorem sumF_le {f g : Nat → Int} : ∀ {n}, (∀ k, k < n → f k ≤ g k) → sumF f n ≤ sumF g n
  | 0, _ => Int.le_refl _
  | n + 1, h => by
    have a := sumF_le (n := n) fun k hk => h k (by omega)
    have b := h n (by omega)
    show sumF f n + f n ≤ sumF g n + g n
    omega
theorem sumF_congr {f g : Nat → Int} : ∀ {n}, (∀ k, k < n → f k = g k) → sumF f n = sumF g n
  | 0, _ => rfl
  | n + 1, h => by
    show sumF f n + f n = sumF g n + g n
    rw [sumF_congr fun k hk => h k (by omega), h n (by omega)]
theorem sumF_zero : ∀ n, sumF (fun _ => 0) n = 0
  | 0 => rfl
  | n + 1 => by show sumF _ n + 0 = 0; rw [sumF_zero n]; rfl
/-- but for one place -/
theorem sumF_one {f g : Nat → Int} {p : Nat} : ∀ {n}, (∀ k, k < n → k ≠ p → f k ≤ g k) → f p ≤ g p + 1 → sumF f n ≤ sumF g n + if p < n then 1 else 0
  | 0, _, _ => by simp [sumF]
  | n + 1, h, hp => by
    have a := sumF_one (n := n) (fun k hk => h k (by omega)) hp
    show sumF f n + f n ≤ sumF g n + g n + _
    by_cases e : n = p
    · subst e
      rw [if_neg (by omega)] at a
      rw [if_pos (by omega)]
      omega
    · have b := h n (by omega) e
      by_cases e2 : p < n
      · rw [if_pos e2] at a; rw [if_pos (by omega)]; omega
      · rw [if_neg e2] at a; rw [if_neg (by omega)]; omega
theorem sumF_put (f : Nat → Int) (p : Nat) : ∀ n, sumF (fun k => if k = p then f k + 1 else f k) n = sumF f n + if p < n then 1 else 0
  | 0 => by simp [sumF]
  | n + 1 => by
    show sumF _ n + (if n = p then f n + 1 else f n) = sumF f n + f n + _
    rw [sumF_put f p n]
    by_cases e : n = p
    · subst e
      rw [if_neg (by omega), if_pos rfl, if_pos (by omega)]; omega
    · rw [if_neg e]
      by_cases e2 : p < n
      · rw [if_pos e2, if_pos (by omega)]; omega
      · rw [if_neg e2, if_neg (by omega)]; omega
theorem map_sumF {α : Type} (t : α → Int) (d : α) (l : List α) : (l.map t).sum = sumF (fun k => t (l.getD k d)) l.length := by
  rw [← sumF_rng]
  congr 1
  apply List.ext_getElem
  · simp
  · intro i h1 h2
    simp at h1 h2 ⊢
    rw [List.getElem?_eq_getElem h1]
    rfl
theorem dueF_nn {h w g : Nat → Int} : ∀ n, 0 ≤ dueF h w g n
  | 0 => Int.le_refl _
  | n + 1 => by
    have := dueF_nn (h := h) (w := w) (g := g) n
    show 0 ≤ if 0 < g n then max (dueF h w g n) ((h n + g n) * (SC / w n)) else dueF h w g n
    split <;> omega
theorem dueF_ge {h w g : Nat → Int} : ∀ {n k}, k < n → 0 < g k → (h k + g k) * (SC / w k) ≤ dueF h w g n
  | 0, k, hk, _ => nomatch hk
  | n + 1, k, hk, hg => by
    show _ ≤ if 0 < g n then max (dueF h w g n) ((h n + g n) * (SC / w n)) else dueF h w g n
    by_cases e : k = n
    · subst e; rw [if_pos hg]; omega
    · have := dueF_ge (h := h) (w := w) (g := g) (n := n) (k := k) (by omega) hg
      split <;> omega
theorem dueF_at {h w g : Nat → Int} : ∀ n, dueF h w g n = 0 ∨ ∃ k, k < n ∧ 0 < g k ∧ dueF h w g n = (h k + g k) * (SC / w k)
  | 0 => .inl rfl
  | n + 1 => by
    have e : dueF h w g (n + 1) = if 0 < g n then max (dueF h w g n) ((h n + g n) * (SC / w n)) else dueF h w g n := rfl
    rw [e]
    by_cases hg : 0 < g n
    · rw [if_pos hg]
      rcases Int.le_total (dueF h w g n) ((h n + g n) * (SC / w n)) with z | z
      · exact .inr ⟨n, by omega, hg, by omega⟩
      · rw [Int.max_eq_left z]
        rcases dueF_at (h := h) (w := w) (g := g) n with a | ⟨k, a, b, c⟩
        · exact .inl a
        · exact .inr ⟨k, by omega, b, c⟩
    · rw [if_neg hg]
      rcases dueF_at (h := h) (w := w) (g := g) n with a | ⟨k, a, b, c⟩
      · exact .inl a
      · exact .inr ⟨k, by omega, b, c⟩
theorem heavF_ok {h w g : Nat → Int} (h0 : ∀ k, 0 ≤ h k) : ∀ {n}, (∀ k, k < n → 1 ≤ w k ∧ w k ≤ 20) → (heavF h w g n).1 * (SC / (heavF h w g n).2) = dueF h w g n ∧ (1 ≤ (heavF h w g n).2 ∧ (heavF h w g n).2 ≤ 20) ∧ 0 ≤ (heavF h w g n).1
  | 0, _ => ⟨by show (0 : Int) * _ = 0; rw [Int.zero_mul], ⟨by show (1 : Int) ≤ 1; omega, by show (1 : Int) ≤ 20; omega⟩, Int.le_refl _⟩
  | n + 1, hw => by
    obtain ⟨a1, a2, a3⟩ := heavF_ok (g := g) h0 (n := n) fun k hk => hw k (by omega)
    have hwn := hw n (by omega)
    have e1 : heavF h w g (n + 1) = if 0 < g n ∧ (heavF h w g n).1 * w n < (h n + g n) * (heavF h w g n).2 then (h n + g n, w n) else heavF h w g n := rfl
    have e2 : dueF h w g (n + 1) = if 0 < g n then max (dueF h w g n) ((h n + g n) * (SC / w n)) else dueF h w g n := rfl
    have hs : (heavF h w g n).1 * (SC / (heavF h w g n).2) < (h n + g n) * (SC / w n) ↔ (heavF h w g n).1 * w n < (h n + g n) * (heavF h w g n).2 := scale_lt (a := (heavF h w g n).1) (b := h n + g n) a2 hwn
    rw [e1, e2]
    by_cases hg : 0 < g n
    · rw [if_pos hg]
      by_cases hl : (heavF h w g n).1 * w n < (h n + g n) * (heavF h w g n).2
      · rw [if_pos ⟨hg, hl⟩]
        have := hs.mpr hl
        rw [a1] at this
        exact ⟨by show (h n + g n) * (SC / w n) = _; rw [Int.max_eq_right (Int.le_of_lt this)], hwn, by have := h0 n; show 0 ≤ h n + g n; omega⟩
      · rw [if_neg fun z => hl z.2]
        have : ¬ _ := fun z => hl (hs.mp z)
        rw [a1] at this
        exact ⟨by rw [a1, Int.max_eq_left (by omega)], a2, a3⟩
    · rw [if_neg fun z => hg z.1, if_neg hg]
      exact ⟨a1, a2, a3⟩
theorem heavF_none {h w g : Nat → Int} : ∀ {n}, (∀ k, k < n → ¬ 0 < g k) → heavF h w g n = (0, 1)
  | 0, _ => rfl
  | n + 1, hg => by
    have e1 : heavF h w g (n + 1) = if 0 < g n ∧ (heavF h w g n).1 * w n < (h n + g n) * (heavF h w g n).2 then (h n + g n, w n) else heavF h w g n := rfl
    rw [e1, if_neg fun z => hg n (by omega) z.1]
    exact heavF_none fun k hk => hg k (by omega)
theorem all_zero {g : Nat → Int} : ∀ {n}, (∀ k, k < n → 0 ≤ g k) → sumF g n = 0 → ∀ k, k < n → ¬ 0 < g k
  | 0, _, _, k, hk => nomatch hk
  | n + 1, h0, hs, k, hk => by
    have a : 0 ≤ sumF g n := by have := sumF_le (f := fun _ => 0) (g := g) (n := n) fun k hk => h0 k (by omega); rw [sumF_zero] at this; exact this
    have b := h0 n (by omega)
    have hs : sumF g n + g n = 0 := hs
    by_cases e : k = n
    · subst e; omega
    · exact all_zero (n := n) (fun k hk => h0 k (by omega)) (by omega) k (by omega)
/-! the dealing -/
theorem step_least {now ws caps : List Int} (hw : ∀ k, k < now.length → 1 ≤ ws.getD k 0 ∧ ws.getD k 0 ≤ 20) : ∀ (l : List Nat) (best : Option Nat), (∀ k ∈ l, k < now.length) → (∀ b, best = some b → b < now.length) → ∀ p, l.foldl (stepD now ws caps) best = some p →
    (∀ k ∈ l, now.getD k 0 < caps.getD k 0 → keyD now ws p ≤ keyD now ws k) ∧ ∀ b, best = some b → keyD now ws p ≤ keyD now ws b
  | [], best, _, _, p, h => ⟨fun _ hk => (nomatch hk), fun b hb => by
      rw [hb] at h
      cases h
      exact Int.le_refl _⟩
  | k :: l, best, hl, hbest, p, h => by
    rw [List.foldl_cons] at h
    have hkn := hl k (List.mem_cons_self ..)
    have hst : ∀ b, stepD now ws caps best k = some b → b < now.length := fun b hb => by
      unfold stepD at hb
      split at hb
      · cases best with
        | none => cases hb; exact hkn
        | some b' =>
          simp only at hb
          split at hb
          · cases hb; exact hkn
          · cases hb; exact hbest _ rfl
      · exact hbest b hb
    obtain ⟨g1, g2⟩ := step_least hw l _ (fun k' hk' => hl k' (List.mem_cons_of_mem _ hk')) hst p h
    by_cases hroom : now.getD k 0 < caps.getD k 0
    · cases best with
      | none =>
        have e : stepD now ws caps none k = some k := by unfold stepD; rw [if_pos hroom]
        have h1 := g2 k e
        exact ⟨fun k' hk' hr' => (List.mem_cons.mp hk').elim (fun z => z ▸ h1) fun z => g1 k' z hr', fun b hb => (nomatch hb)⟩
      | some b =>
        have hbn := hbest b rfl
        have hs := scale_lt (a := now.getD k 0 + 1) (b := now.getD b 0 + 1) (hw k hkn) (hw b hbn)
        by_cases hlt : (now.getD k 0 + 1) * ws.getD b 0 < (now.getD b 0 + 1) * ws.getD k 0
        · have e : stepD now ws caps (some b) k = some k := by unfold stepD; rw [if_pos hroom]; exact if_pos hlt
          have h1 := g2 k e
          have h2 := hs.mpr hlt
          refine ⟨fun k' hk' hr' => (List.mem_cons.mp hk').elim (fun z => z ▸ h1) fun z => g1 k' z hr', fun b' hb' => ?_⟩
          cases hb'
          unfold keyD at h1 ⊢
          omega
        · have e : stepD now ws caps (some b) k = some b := by unfold stepD; rw [if_pos hroom]; exact if_neg hlt
          have h1 := g2 b e
          have h2 : ¬ _ := fun z => hlt (hs.mp z)
          refine ⟨fun k' hk' hr' => (List.mem_cons.mp hk').elim (fun z => ?_) fun z => g1 k' z hr', fun b' hb' => by cases hb'; exact h1⟩
          subst z
          unfold keyD at h1 ⊢
          omega
    · have e : stepD now ws caps best k = best := by unfold stepD; rw [if_neg hroom]
      refine ⟨fun k' hk' hr' => (List.mem_cons.mp hk').elim (fun z => absurd (z ▸ hr') hroom) fun z => g1 k' z hr', fun b hb => g2 b (by rw [e, hb])⟩
theorem next_least {now ws caps : List Int} (hw : ∀ k, k < now.length → 1 ≤ ws.getD k 0 ∧ ws.getD k 0 ≤ 20) {p : Nat} (h : nextD now ws caps = some p) {k : Nat} (hk : k < now.length) (hr : now.getD k 0 < caps.getD k 0) : keyD now ws p ≤ keyD now ws k :=
  (step_least hw (List.range now.length) none (fun k hk => List.mem_range.mp hk) (fun _ z => nomatch z) p h).1 k (List.mem_range.mpr hk) hr
def ato (l : List Int) : Nat → Int := fun k => l.getD k 0
theorem ato_set {l : List Int} {p : Nat} {z : Int} (hp : p < l.length) (k : Nat) : ato (l.set p z) k = if k = p then z else ato l k := by
  unfold ato
  by_cases e : k = p
  · subst e; rw [if_pos rfl]; simp [List.getD_eq_getElem?_getD, hp]
  · rw [if_neg e]; simp [List.getD_eq_getElem?_getD, List.getElem?_set_ne (fun z => e z.symm)]
/-- where one place's load as it is at the end is the mark, fewer have room below it than were dealt -/
theorem deal_below {ws caps : List Int} : ∀ (m : Nat) (now : List Int) (j : Nat), (∀ k, k < now.length → 1 ≤ ws.getD k 0 ∧ ws.getD k 0 ≤ 20) → 0 < (dealD ws caps m now).count j →
    belF (ato now) (ato ws) (ato caps) ((ato now j + ((dealD ws caps m now).count j : Nat)) * (SC / ato ws j)) now.length ≤ m - 1
  | 0, now, j, _, h => by simp [dealD] at h
  | m + 1, now, j, hw, h => by
    cases e : nextD now ws caps with
    | none => simp [dealD, e] at h
    | some p =>
      obtain ⟨hp1, hp2⟩ := next_in e
      have ed : dealD ws caps (m + 1) now = p :: dealD ws caps m (now.set p (now.getD p 0 + 1)) := by simp [dealD, e]
      rw [ed] at h ⊢
      have hlen : (now.set p (now.getD p 0 + 1)).length = now.length := List.length_set ..
      by_cases hj : 0 < (dealD ws caps m (now.set p (now.getD p 0 + 1))).count j
      · have ih := deal_below m (now.set p (now.getD p 0 + 1)) j (by rw [hlen]; exact hw) hj
        rw [hlen] at ih
        have ekey : ato (now.set p (now.getD p 0 + 1)) j + ((dealD ws caps m (now.set p (now.getD p 0 + 1))).count j : Nat) = ato now j + ((p :: dealD ws caps m (now.set p (now.getD p 0 + 1))).count j : Nat) := by
          rw [ato_set hp1, List.count_cons]
          by_cases ej : j = p
          · subst ej
            rw [if_pos rfl]
            simp [ato]
            omega
          · rw [if_neg ej]
            have : (p == j) = false := by simp; exact fun z => ej z.symm
            rw [this]
            simp
        rw [ekey] at ih
        generalize (ato now j + ((p :: dealD ws caps m (now.set p (now.getD p 0 + 1))).count j : Nat)) * (SC / ato ws j) = Kk at ih ⊢
        have := sumF_one (n := now.length) (p := p) (f := fun k => max 0 (min (ato caps k) ((Kk - 1) / (SC / ato ws k)) - ato now k)) (g := fun k => max 0 (min (ato caps k) ((Kk - 1) / (SC / ato ws k)) - ato (now.set p (now.getD p 0 + 1)) k)) (fun k _ hk => by simp only [ato_set hp1, if_neg hk]; exact Int.le_refl _) (by
          simp only [ato_set hp1, if_true]
          simp only [ato]
          omega)
        rw [if_pos hp1] at this
        unfold belF at ih ⊢
        push_cast
        omega
      · have h0 : (dealD ws caps m (now.set p (now.getD p 0 + 1))).count j = 0 := by omega
        rw [List.count_cons, h0] at h ⊢
        have ej : p = j := by
          by_cases z : p = j
          · exact z
          · simp [z] at h
        subst ej
        have hz : belF (ato now) (ato ws) (ato caps) ((ato now p + ((0 + if (p == p) = true then 1 else 0 : Nat) : Int)) * (SC / ato ws p)) now.length ≤ sumF (fun _ => 0) now.length := by
          refine sumF_le fun k hk => ?_
          have hk20 := hw k hk
          by_cases hr : now.getD k 0 < caps.getD k 0
          · have h1 := next_least hw e hk hr
            have hd : 0 < SC / ato ws k := by
              have := div_exact hk20.1 hk20.2
              have h3 : (SC / ato ws k) * ato ws k = SC := this
              by_cases hn : 0 < SC / ato ws k
              · exact hn
              · have h4 : (SC / ato ws k) * ato ws k ≤ 0 := Int.mul_nonpos_of_nonpos_of_nonneg (by omega) (by have : 1 ≤ ato ws k := hk20.1; omega)
                rw [h3] at h4
                exact absurd h4 (by decide)
            have h2 : ((ato now p + ((0 + if (p == p) = true then 1 else 0 : Nat) : Int)) * (SC / ato ws p) - 1) / (SC / ato ws k) < ato now k + 1 := by
              refine Int.ediv_lt_of_lt_mul hd ?_
              have h1' : (ato now p + 1) * (SC / ato ws p) ≤ (ato now k + 1) * (SC / ato ws k) := h1
              simp
              omega
            show max 0 (min _ _ - _) ≤ 0
            omega
          · have hr' : ¬ ato now k < ato caps k := hr
            show max 0 (min _ _ - _) ≤ 0
            omega
        rw [sumF_zero] at hz
        push_cast at hz ⊢
        omega
theorem deal_full {ws caps : List Int} : ∀ (m : Nat) (now : List Int), now.length ≤ caps.length → (m : Int) ≤ roomD now caps → (dealD ws caps m now).length = m ∧ ∀ p ∈ dealD ws caps m now, p < now.length
  | 0, now, _, _ => ⟨rfl, fun _ h => nomatch h⟩
  | m + 1, now, hl, h => by
    obtain ⟨p, e, hp1, hp2⟩ := next_some (ws := ws) (now := now) (caps := caps) (by omega)
    have ed : dealD ws caps (m + 1) now = p :: dealD ws caps m (now.set p (now.getD p 0 + 1)) := by simp [dealD, e]
    have hlen : (now.set p (now.getD p 0 + 1)).length = now.length := List.length_set ..
    obtain ⟨a, b⟩ := deal_full (ws := ws) (caps := caps) m (now.set p (now.getD p 0 + 1)) (by omega) (by rw [room_set hl hp1 hp2]; omega)
    rw [ed]
    refine ⟨by rw [List.length_cons, a], fun q hq => ?_⟩
    rcases List.mem_cons.mp hq with z | z
    · rw [z]; exact hp1
    · have := b q z; omega
theorem sum_count : ∀ (l : List Nat) (n : Nat), (∀ p ∈ l, p < n) → sumF (fun k => (l.count k : Nat)) n = l.length
  | [], n, _ => by simp [sumF_zero]
  | p :: l, n, h => by
    have e : sumF (fun k => ((p :: l).count k : Nat)) n = sumF (fun k => if k = p then ((l.count k : Nat) : Int) + 1 else (l.count k : Nat)) n := sumF_congr fun k _ => by
      show (((p :: l).count k : Nat) : Int) = _
      rw [List.count_cons]
      by_cases z : k = p
      · subst z; simp
      · have : (p == k) = false := by simp; exact fun y => z y.symm
        rw [this, if_neg z]
        simp
    rw [e, sumF_put (fun k => ((l.count k : Nat) : Int)) p n, sum_count l n fun q hq => h q (List.mem_cons_of_mem _ hq), if_pos (h p (List.mem_cons_self ..))]
    simp
end SL

/-! comprehensions over what a call hands back -/
namespace SL
open PySem PySem.Spec PyProof.Rows L2
section
variable {ι : Type} {X : ι → Cx} {K : PySem.W.Frag} {E : Ent} {B : Hp} {Γ Γ' : Slots} {R R' R2' R3 Ra Rb Rs : List Res} {a b c e o : Expr} {es : List Expr} {pos p' apos : Pos} {s s1 s2 s3 : Sl} {ss : List Sl}
  {P : Program} {w : World} {mg : Str → Option Value} {base : Heap} {A : Around} {N ps : List Str} {rest sts bd : List Stmt} {D : Ends} {S S' H H' : Hp} {σ σ' : L2.St} {f : Str} {i j : Int} {x : Str}
def ItN {ν : Type} (X : ι → Cx) (K : PySem.W.Frag) (E : Ent) (Γ : Slots) (R : List Res) (tg iter : Expr) (R1 : ν → List Res) (items : ν → List Sl) (C : ν → List Res → Prop) : Prop :=
  ∃ wi : TI, (∀ i, PI (X i) tg iter wi) ∧ ∀ S σ H (Rk : It → Hp → Prop), SR K E Γ R S σ H →
    (∀ m J S1 H1, Same S S1 → SR K E Γ (R1 m) S1 σ H1 →
      (∀ (n : Nat) Γ' R' S' σ' H', Same S1 S' → SR K E Γ' R' S' σ' H' → C m R' →
        (∀ s, (items m)[n]? = some s → J.go n H' ∧ ∀ x H'', J.yld n H' x H'' → ∃ S'', Same S' S'' ∧ SR K E Γ' R' S'' σ' H'' ∧ s.r K S'' x) ∧ ((items m).length ≤ n → J.stop n H')) → Rk J H1) → wi σ H Rk
theorem it_lsN {ν : Type} {Rn : ν → List Res} {sn : ν → Sl} (F : Fam X P w K mg base A N) {tg : Expr} {ds : ν → List PyData} {C : ν → List Res → Prop} (h : EvN X K E Γ R e Rn sn) (hl : ∀ m, LS K E (Rn m) (sn m) (ds m) (C m)) : ItN X K E Γ R tg e Rn (fun m => (ds m).map sl) C := by
  obtain ⟨t, a1, a2⟩ := h
  refine ⟨iList K t, fun i => by rw [← F.fK i]; exact pi_list (a1 i), fun S σ H Rk q k => a2 S σ H _ q fun m v S1 H1 e1 q1 r1 => ?_⟩
  obtain ⟨p, rfl, h1, h2⟩ := hl m Γ S1 σ H1 v q1 r1
  refine ⟨p, rfl, h1, k m _ S1 H1 e1 q1 fun n Γ' R' S' σ' H' e' q' hC => ?_⟩
  obtain ⟨vs, g1, g2⟩ := h2 Γ' R' S' σ' H' e' q' hC
  refine ⟨fun s hs => ?_, fun hn => ⟨vs, g1, by rw [List.length_map] at hn; rw [daAll_len g2]; exact hn⟩⟩
  rw [List.getElem?_map] at hs
  cases e2 : (ds m)[n]? with
  | none => rw [e2] at hs; cases hs
  | some d =>
    rw [e2] at hs
    cases hs
    obtain ⟨x, hx, hd⟩ := daAll_get' g2 e2
    refine ⟨⟨vs, x, g1, hx⟩, fun y H'' ⟨z1, z2⟩ => ?_⟩
    subst z1
    cases sqL_same (ys := vs) (xs := vs) z2 g1 hx
    exact ⟨S', Same.refl _, q', sl_da.mpr hd⟩
theorem lc_jN {ν α : Type} {R1 : ν → List Res} {tg iter elt : Expr} {ifs : List Expr} {scope : Scope} {own : List (Str × Nat)} {C : ν → List Res → Prop} {us : List Nat} {xs : ν → List α} {it : α → Sl} {up : α → Slots → Slots} {k : α → Bool} {d : α → PyData} {se : α → Sl} {items : ν → List Sl}
    (F : Fam X P w K mg base A N) (hi : ItN X K E Γ R tg iter R1 items C) (hit : ∀ m, items m = (xs m).map it) (ok : ∀ i, BlkOk (X i).N (X i).env.scope scope own)
    (htg : Fam (BX X scope) P w K mg base A N → TgA (BX X scope) K E tg it up us) (hu : ∀ j ∈ us, j ∈ own.map (·.2))
    (hC : ∀ m D acc, C m (R1 m ++ [rL D acc])) (ht : Fam (BX X scope) P w K mg base A N → ∀ m D acc, ∀ x ∈ xs m, TsJ (BX X scope) K E (up x (wipeG Γ (own.map (·.2)))) (R1 m ++ [rL D acc]) ifs (k x))
    (he : Fam (BX X scope) P w K mg base A N → ∀ m D acc, ∀ x ∈ xs m, k x = true → EvJ (BX X scope) K E (up x (wipeG Γ (own.map (·.2)))) (R1 m ++ [rL D acc]) elt (R1 m ++ [rL D acc]) (se x)) (hd : ∀ x, k x = true → ∀ K S v, (se x).r K S v → Da K S v (d x))
    (hz : ∀ m, (xs m).length ≤ 1000000) (hs : ∀ i x, foldedSetIterable iter (X i).env x = pure x := by exact fun _ _ => rfl) (hcm : ∀ i, (X i).calm = true := by exact fun _ => rfl) :
    EvN X K E Γ R (.ListComp elt [⟨tg, iter, ifs, 0⟩] scope pos) (fun p : ν × Addr => R1 p.1 ++ [rL p.2 (((xs p.1).filter k).map d)]) (fun p => sv (.ref p.2)) := by
  obtain rfl : items = fun m => (xs m).map it := funext hit
  have htg := htg (fam_blk F)
  have ht := ht (fam_blk F)
  have he := he (fam_blk F)
  obtain ⟨wi, w1, w2⟩ := hi
  obtain ⟨g, t1, t2⟩ := htg
  have ht' := fun (n : { q : ν × Addr × List PyData × α // q.2.2.2 ∈ xs q.1 }) => Classical.choose_spec (ht n.1.1 n.1.2.1 n.1.2.2.1 n.1.2.2.2 n.2)
  have he' := fun (n : { q : ν × Addr × List PyData × α // q.2.2.2 ∈ xs q.1 ∧ k q.2.2.2 = true }) => Classical.choose_spec (he n.1.1 n.1.2.1 n.1.2.2.1 n.1.2.2.2 n.2.1 n.2.2)
  refine ⟨tLc wi g _ _ (own.map (·.2)), fun i => pe_lc (hcm i) (by rw [F.fN i]; exact F.nd) (w1 i) (ok i) (fun s H C cl fp => t1 ⟨i, s, H, C, cl, fp⟩) (fun s H C cl fp => pts_any fun n => (ht' n).1 ⟨i, s, H, C, cl, fp⟩) (fun s H C cl fp => pe_any fun n => (he' n).1 ⟨i, s, H, C, cl, fp⟩) (hs i), fun S σ H Q q kk => ?_⟩
  refine w2 S σ H _ q fun μ J S1 H1 e1 q1 hJ D hD => ?_
  refine ⟨fun n m H => m = (xs μ).length - n ∧ n ≤ (xs μ).length ∧ ∃ S', Same S1 S' ∧ SR K E Γ (R1 μ ++ [rL D ((((xs μ).take n).filter k).map d)]) S' σ H, ⟨(xs μ).length, by simp, Nat.zero_le _, S1, Same.refl _, q1.mine hD ⟨[], rfl, .nil⟩⟩, ?_⟩
  rintro n m H2 ⟨rfl, hn, S2, e2, q2⟩
  obtain ⟨g1, g2⟩ := hJ n _ _ S2 σ H2 e2 q2 (hC _ _ _)
  have hzμ := hz μ
  by_cases hlt : n < (xs μ).length
  · have hx : (xs μ)[n]? = some (xs μ)[n] := List.getElem?_eq_getElem hlt
    have hm : (xs μ)[n] ∈ xs μ := List.getElem_mem hlt
    have htake : (xs μ).take (n + 1) = (xs μ).take n ++ [(xs μ)[n]] := by rw [List.take_succ, hx]; rfl
    obtain ⟨go, hy⟩ := g1 (it (xs μ)[n]) (by rw [List.getElem?_map, hx]; rfl)
    refine .inr ⟨go, fun H' => ∃ S', Same S1 S' ∧ SR K E Γ (R1 μ ++ [rL D ((((xs μ).take (n + 1)).filter k).map d)]) S' σ H', fun H' h' => ⟨(xs μ).length - (n + 1), by omega, rfl, hlt, h'⟩, fun x H' hx' => ?_⟩
    obtain ⟨S3, e3, q3, r3⟩ := hy x H' hx'
    apply t2 (xs μ)[n] _ _ S3 (wipe σ (own.map (·.2))) H' x _ (q3.reslot (wipe_slots _ q3.slots)) r3
    intro σ4 q4 o4 l4
    refine ⟨wipe_eq o4 l4 hu, ?_⟩
    refine ⟨⟨(μ, D, (((xs μ).take n).filter k).map d, (xs μ)[n]), hm⟩, (ht' ⟨(μ, D, (((xs μ).take n).filter k).map d, (xs μ)[n]), hm⟩).2 S3 σ4 H' _ q4 fun S5 H5 e5 q5 => ?_⟩
    have q5' : SR K E Γ (R1 μ ++ [rL D ((((xs μ).take n).filter k).map d)]) S5 σ H5 := q5.reslot (slots_mono e5 q3.slots)
    cases hk : k (xs μ)[n] with
    | false =>
      refine iteF ⟨S5, (e2.trans e3).trans e5, ?_⟩
      rw [htake, List.filter_append, List.filter_cons, if_neg (by rw [hk]; exact Bool.false_ne_true), List.filter_nil, List.append_nil]
      exact q5'
    | true =>
      refine iteT ⟨⟨(μ, D, (((xs μ).take n).filter k).map d, (xs μ)[n]), hm, hk⟩, (he' ⟨(μ, D, (((xs μ).take n).filter k).map d, (xs μ)[n]), hm, hk⟩).2 S5 σ4 H5 _ q5 fun y S6 H6 e6 q6 r6 => ?_⟩
      have q6' : SR K E Γ (R1 μ ++ [rL D ((((xs μ).take n).filter k).map d)]) S6 σ H6 := q6.reslot (slots_mono e6 q5'.slots)
      obtain ⟨O, ⟨acc, eO, hacc⟩, sO⟩ := q6'.res (R1 μ).length get_last
      subst eO
      refine ⟨acc, sO D _ hOne_same, ?_, S6, ((e2.trans e3).trans e5).trans e6, ?_⟩
      · rw [daAll_len hacc, List.length_map]
        have h1 := List.length_filter_le k ((xs μ).take n)
        rw [List.length_take] at h1
        have : (sizeLine : Nat) = 16777216 := sizeLine_eq
        omega
      · rw [htake, List.filter_append, List.filter_cons, if_pos (by rw [hk]), List.filter_nil, List.map_append]
        have := q6'.putL (R1 μ).length get_last (daAll_app hacc (.cons (hd _ hk K S6 y r6) .nil))
        rw [set_last] at this
        exact this
  · have e : n = (xs μ).length := by omega
    subst e
    rw [List.take_length] at q2
    exact .inl ⟨g2 (by rw [List.length_map]; exact Nat.le_refl _), kk (μ, D) _ S2 H2 (e1.trans e2) q2 rfl⟩
theorem te_cmpN {ν : Type} {Rn : ν → List Res} {sn : ν → Sl} {op : CmpOp} {k : Bool} (ha : EvJ X K E Γ R a R s1) (hb : EvN X K E Γ R b (fun n => R ++ Rn n) sn) (ho : ∀ n, BinR X K E (compareOp op) (R ++ Rn n) s1 (sn n) (sv (.bl k))) (hm : behindInMarks op b = false := by first | exact nomark _ | with_unfolding_all rfl) : TeJ X K E Γ R (.Compare a [op] [b] pos) k := by
  obtain ⟨ta, a1, a2⟩ := ha
  obtain ⟨tb, b1, b2⟩ := hb
  have ho' := fun n => Classical.choose_spec (ho n)
  refine ⟨tTest (tOp (fun x y H Q => ∃ n, Classical.choose (ho n) x y H Q) ta tb), fun i => pt_cmpR (fun pins s σ H x y v u Q I rx ry ⟨n, h⟩ => (ho' n).1 i pins s σ H x y v u Q I rx ry h) (a1 i) (b1 i) hm, fun S σ H Q q k' => ?_⟩
  refine a2 S σ H _ q fun x S1 H1 e1 q1 r1 => b2 S1 σ H1 _ q1 fun n y S2 H2 e2 q2 r2 => ⟨n, ?_⟩
  exact (ho' n).2 Γ S2 σ H2 x y _ q2 (s1.mono e2 r1) r2 fun v S3 H3 e3 q3 r3 => ⟨k, r3, k' S3 H3 ((e1.trans e2).trans e3) q3.drop⟩
end
end SL

namespace SL
open PySem PySem.Spec PyProof.Rows L2
def top (i : Nat) : Stmt := PySem.Challenge.pw_usher_k32_whole_height.main.body.getD i (.Pass ⟨0, 0, 0, 0⟩)
structure Bt (mg : Str → Option Value) : Prop where
  ValueError : mg "ValueError" = none
  bool : mg "bool" = none
  isinstance : mg "isinstance" = none
  len : mg "len" = none
  list : mg "list" = none
  max : mg "max" = none
  min : mg "min" = none
  range : mg "range" = none
  sum : mg "sum" = none
  tuple : mg "tuple" = none
  zip : mg "zip" = none
local macro_rules | `(tactic| walk_at "ob") => `(tactic| first | omega | (refine sz ?_; first | omega | decide +kernel | (simp only [app_len, sign_len, len_tx, List.length_map, List.length_range]; omega)) | (simp only [List.length_cons, List.length_nil, List.length_map, List.length_range, List.length_append]; first | omega | (with_reducible exact by_lt (by decide))) | (with_reducible assumption) | (with_reducible exact by_nn (by decide)) | (with_reducible exact by_lt (by decide)) | decide | trivial | (simp; done) | (simp; omega))
local macro_rules | `(tactic| walk_at "mul") => `(tactic| first | exact Or.inr ⟨by decide, by decide⟩ | exact Or.inl ⟨by decide, by decide⟩ | exact Or.inl ⟨by omega, by omega⟩ | exact Or.inr ⟨by omega, by omega⟩ | (with_reducible assumption))
local macro_rules | `(tactic| walk_at "lv") => `(tactic| first | (with_reducible exact lv_d) | ((with_reducible apply lv_o 0); (rfl)) | ((with_reducible apply lv_o 1); (rfl)) | ((with_reducible apply lv_o 2); (rfl)) | ((with_reducible apply lv_o 3); (rfl)) | ((with_reducible apply lv_o 4); (rfl)) | ((with_reducible apply lv_o 5); (rfl)))
local macro_rules | `(tactic| walk_at "ad1") => `(tactic| first | (with_reducible exact ad_int) | (with_reducible exact ad_str) | (with_reducible exact ad_bl) | (with_reducible exact ad_non) | (with_reducible exact ad_d) | ((with_reducible apply ad_tup); (walk_at "ad")) | (with_reducible exact ad_l))
local macro_rules | `(tactic| walk_at "ad") => `(tactic| first | (with_reducible exact AreD.nil) | ((with_reducible apply AreD.cons); (walk_at "ad1"); (walk_at "ad")))
local macro_rules | `(tactic| walk_at "tv") => `(tactic| first | (with_reducible exact tv_d) | ((with_reducible apply tv_s); (walk_at "ad")))
local macro_rules | `(tactic| walk_at "bin") => `(tactic| first | (with_reducible exact br_add) | (with_reducible exact br_sub) | ((with_reducible apply br_mod); (walk_at "ob")) | ((with_reducible apply br_mul); (walk_at "mul")) | ((with_reducible refine br_fdiv ?_); refine ⟨?_, ?_⟩ <;> walk_at "ob") | ((with_reducible refine br_fdivW ?_); refine cdivW ?_ ?_ <;> walk_at "ob") | ((with_reducible apply br_shr); (walk_at "ob")) | ((with_reducible apply br_adds); (walk_at "ob")))
local macro_rules | `(tactic| walk_at "cmp") => `(tactic| first | (with_reducible exact br_lt) | (with_reducible exact br_le) | (with_reducible exact br_gt) | (with_reducible exact br_ge) | (with_reducible exact br_eqI) | (with_reducible exact br_neI) | (with_reducible exact br_eqS) | (with_reducible exact br_neS) | (with_reducible exact br_eqB) | (with_reducible exact br_neB) | (with_reducible exact br_inS) | (with_reducible exact br_notInS) | (with_reducible exact br_isND) | (with_reducible exact br_notND) | (with_reducible exact br_isN) | (with_reducible exact br_notN) | ((with_reducible apply br_eqV); (rfl)) | ((with_reducible apply br_neV); (rfl)) | ((with_reducible apply br_inD (by assumption) (by assumption)); (walk_at "dc")) | ((with_reducible apply br_ninD (by assumption) (by assumption)); (walk_at "dc")) | ((with_reducible apply br_eqP (by assumption) (by assumption)); (walk_at "dv"); (walk_at "dv"); (walk_at "depo")) | ((with_reducible apply br_neP (by assumption) (by assumption)); (walk_at "dv"); (walk_at "dv"); (walk_at "depo")))
local macro_rules | `(tactic| walk_at "dv") => `(tactic| first | (with_reducible exact dv_d) | ((with_reducible apply dv_o 0); (rfl)) | ((with_reducible apply dv_o 1); (rfl)) | ((with_reducible apply dv_o 2); (rfl)) | ((with_reducible apply dv_o 3); (rfl)) | ((with_reducible apply dv_o 4); (rfl)) | ((with_reducible apply dv_o 5); (rfl)) | ((with_reducible apply dv_ad); (walk_at "ad1")))
local macro_rules | `(tactic| walk_at "depo") => `(tactic| first | (refine Or.inl ?_; walk_at "dep") | (refine Or.inr ?_; walk_at "dep"))
local macro_rules | `(tactic| walk_at "dep") => `(tactic| first | (with_reducible exact dep_int) | (with_reducible exact dep_str) | (with_reducible exact dep_bool) | (with_reducible exact dep_none) | (with_reducible exact dep_mkD) | (with_reducible exact dep_svD) | ((with_reducible apply dep_list); (walk_at "depA")) | ((with_reducible apply dep_tup); (walk_at "depA")) | (with_reducible assumption))
local macro_rules | `(tactic| walk_at "depA") => `(tactic| first | (with_reducible exact depA_nil) | ((with_reducible apply depA_cons); (walk_at "dep"); (walk_at "depA")) | ((with_reducible apply depA_map); (intro _); (walk_at "dep")) | ((with_reducible apply depA_app); (walk_at "depA"); (walk_at "depA")) | (with_reducible assumption))
local macro_rules | `(tactic| walk_at "ls") => `(tactic| first | (with_reducible exact ls_d) | (with_reducible exact ls_scr) | ((with_reducible apply ls_o 0); (rfl)) | ((with_reducible apply ls_o 1); (rfl)) | ((with_reducible apply ls_o 2); (rfl)) | ((with_reducible apply ls_o 3); (rfl)) | ((with_reducible apply ls_o 4); (rfl)) | ((with_reducible apply ls_o 5); (rfl)))
local macro_rules | `(tactic| walk_at "dc") => `(tactic| first | ((with_reducible apply dc_o 0); (rfl)) | ((with_reducible apply dc_o 1); (rfl)) | ((with_reducible apply dc_o 2); (rfl)) | ((with_reducible apply dc_o 3); (rfl)) | ((with_reducible apply dc_o 4); (rfl)) | ((with_reducible apply dc_o 5); (rfl)) | ((with_reducible apply dc_o 6); (rfl)) | ((with_reducible apply dc_o 7); (rfl)) | ((with_reducible apply dc_z 0); (rfl)) | ((with_reducible apply dc_z 1); (rfl)) | ((with_reducible apply dc_z 2); (rfl)) | ((with_reducible apply dc_z 3); (rfl)) | ((with_reducible apply dc_z 4); (rfl)) | ((with_reducible apply dc_z 5); (rfl)) | ((with_reducible apply dc_z 6); (rfl)) | ((with_reducible apply dc_z 7); (rfl)))
local macro_rules | `(tactic| walk_at "lk") => `(tactic| first | assumption | ((rw [lk_pos (by decide +kernel)]); done) | ((rw [lk_neg (by decide +kernel)]); (walk_at "lk")) | (simp [lk_onV, *]; done))
local macro_rules | `(tactic| walk_at "binN") => `(tactic| first | ((with_reducible apply bn_rep); (walk_at "lv"); (walk_at "ob"); (walk_at "ob"); (walk_at "ob")) | ((with_reducible apply bn_cat); (walk_at "lv"); (walk_at "lv"); (walk_at "ob")))
local macro_rules | `(tactic| walk_at "lend1") => `(tactic| first | ((with_reducible apply lend_o 0); (rfl)) | ((with_reducible apply lend_o 1); (rfl)) | ((with_reducible apply lend_o 2); (rfl)) | ((with_reducible apply lend_o 3); (rfl)) | ((with_reducible apply lend_o 4); (rfl)) | ((with_reducible apply lend_o 5); (rfl)) | ((with_reducible apply lend_o 6); (rfl)) | ((with_reducible apply lend_o 7); (rfl)) | (with_reducible exact lend_id))
local macro_rules | `(tactic| walk_at "lend") => `(tactic| first | exact All2.nil | ((with_reducible apply All2.cons); (walk_at "lend1"); (walk_at "lend")))
local macro_rules | `(tactic| walk_at "flatA") => `(tactic| first | exact flatA_nil | (refine flatA_cons ?_ ?_; walk_at "flat"; walk_at "flatA"))
local macro_rules | `(tactic| walk_at "flat") => `(tactic| first | (with_reducible exact flat_v) | ((with_reducible refine flat_tup ?_); walk_at "flatA") | ((with_reducible refine flat_d ?_); rfl))
local macro_rules | `(tactic| walk_at "hC") => `(tactic| first | exact fun _ _ => trivial | exact fun _ _ => rfl | exact fun _ _ => ⟨trivial, trivial⟩ | exact fun _ _ => ⟨rfl, rfl⟩ | exact fun _ _ => ⟨rfl, trivial⟩ | exact fun _ _ => ⟨trivial, rfl⟩)
local macro_rules | `(tactic| walk_at "ias") => `(tactic| first | exact sl_ints | exact sl_strs | exact sl_bools | exact zip_ints | rfl | (simp; done))
local macro_rules | `(tactic| walk_at "ix") => `(tactic| first | ((with_reducible apply ix_scr (by assumption)); (assumption)) | ((with_reducible apply ix_tplI (by assumption)); (walk_at "tv"); (rfl)) | ((with_reducible apply ix_tplS (by assumption)); (walk_at "tv"); (rfl)) | ((with_reducible apply ix_tplB (by assumption)); (walk_at "tv"); (rfl)) | ((with_reducible apply ix_tplL (by assumption)); (walk_at "tv"); (rfl)) | ((with_reducible apply ix_tplT (by assumption)); (walk_at "tv"); (rfl)) | ((with_reducible apply ix_stup (by assumption)); (rfl)) | ((with_reducible apply ix_lstI (by assumption)); (walk_at "lv"); (first | assumption | rfl)) | ((with_reducible apply ix_lstS (by assumption)); (walk_at "lv"); (first | assumption | rfl)) | ((with_reducible apply ix_lstL (by assumption)); (walk_at "lv"); (first | assumption | rfl)) | ((with_reducible apply ix_lstT (by assumption)); (walk_at "lv"); (first | assumption | rfl)) | ((with_reducible apply ix_lstB (by assumption)); (walk_at "lv"); (first | assumption | rfl)) | ((with_reducible apply ix_menuI (by assumption)); (walk_at "lv"); (rfl); (walk_at "ob"); (walk_at "ob")) | ((with_reducible apply ix_menuS (by assumption)); (walk_at "lv"); (rfl); (walk_at "ob"); (walk_at "ob")) | ((with_reducible apply ix_dct (by assumption) (by assumption)); (walk_at "dc"); (walk_at "lk")) | ((with_reducible apply ix_sign); (walk_at "ob"); (walk_at "ob"); (walk_at "ob")))
local macro_rules | `(tactic| walk_at "allI") => `(tactic| first | rfl | (simp [isI]; done) | (simp [isB]; done) | (simp [isS]; done))
local macro_rules | `(tactic| walk_at "cl") => `(tactic| first | (with_reducible exact cl_lenR (by assumption)) | ((with_reducible apply cl_len (by assumption)); (walk_at "lv")) | ((with_reducible apply cl_lenT (by assumption)); (walk_at "tv")) | ((with_reducible apply cl_lenS); (walk_at "ob")) | ((with_reducible apply cl_max2 (hcm := ?_) (by assumption)); (exact fun _ => rfl)) | ((with_reducible apply cl_min2 (hcm := ?_) (by assumption)); (exact fun _ => rfl)) | (with_reducible exact cl_intB) | ((with_reducible apply cl_list (by assumption)); (walk_at "lv")) | ((with_reducible apply cl_sum (by assumption)); (walk_at "lv"); (walk_at "allI"); (exact fun _ => rfl)) | ((with_reducible apply cl_str); (walk_at "ob")) | ((with_reducible apply cl_all (by assumption)); (walk_at "lv"); (walk_at "allI"); (exact fun _ => rfl)) | ((with_reducible apply cl_listD (by assumption)); (walk_at "dc"); (exact fun _ => rfl)) | ((with_reducible apply cl_dictD (by assumption)); (walk_at "dc")) | ((with_reducible apply cl_lenD 0); (rfl)) | ((with_reducible apply cl_lenD 1); (rfl)) | ((with_reducible apply cl_lenD 2); (rfl)) | ((with_reducible apply cl_lenD 3); (rfl)) | ((with_reducible apply cl_lenD 4); (rfl)) | ((with_reducible apply cl_lenD 5); (rfl)) | ((with_reducible apply cl_lenD 6); (rfl)) | ((with_reducible apply cl_lenD 7); (rfl)))
local macro_rules | `(tactic| walk_at "ty") => `(tactic| first | (with_reducible exact ty_int) | (with_reducible exact ty_str) | (with_reducible exact ty_bool) | (with_reducible exact ty_none) | (with_reducible exact ty_tup) | (with_reducible exact ty_stup) | ((with_reducible apply ty_list); (walk_at "lv")))
local macro_rules | `(tactic| walk_at "kit") => `(tactic| first | (with_reducible exact kit_int_int) | (with_reducible exact kit_int_str) | (with_reducible exact kit_int_bool) | (with_reducible exact kit_int_list) | (with_reducible exact kit_int_tuple) | (with_reducible exact kit_int_dict) | (with_reducible exact kit_str_int) | (with_reducible exact kit_str_str) | (with_reducible exact kit_str_bool) | (with_reducible exact kit_str_list) | (with_reducible exact kit_str_tuple) | (with_reducible exact kit_str_dict) | (with_reducible exact kit_bool_int) | (with_reducible exact kit_bool_str) | (with_reducible exact kit_bool_bool) | (with_reducible exact kit_bool_list) | (with_reducible exact kit_bool_tuple) | (with_reducible exact kit_bool_dict) | (with_reducible exact kit_NoneType_int) | (with_reducible exact kit_NoneType_str) | (with_reducible exact kit_NoneType_bool) | (with_reducible exact kit_NoneType_list) | (with_reducible exact kit_NoneType_tuple) | (with_reducible exact kit_NoneType_dict) | (with_reducible exact kit_list_int) | (with_reducible exact kit_list_str) | (with_reducible exact kit_list_bool) | (with_reducible exact kit_list_list) | (with_reducible exact kit_list_tuple) | (with_reducible exact kit_list_dict) | (with_reducible exact kit_tuple_int) | (with_reducible exact kit_tuple_str) | (with_reducible exact kit_tuple_bool) | (with_reducible exact kit_tuple_list) | (with_reducible exact kit_tuple_tuple) | (with_reducible exact kit_tuple_dict) | (with_reducible exact kit_dict_int) | (with_reducible exact kit_dict_str) | (with_reducible exact kit_dict_bool) | (with_reducible exact kit_dict_list) | (with_reducible exact kit_dict_tuple) | (with_reducible exact kit_dict_dict))
local macro_rules | `(tactic| walk_at "wk1") => `(tactic| first | (with_reducible exact wk_none) | (with_reducible exact wk_same) | exact wk_none | exact wk_same | exact wk_eq (by first | rfl | (simp only [List.foldl_append, List.foldl_cons, List.foldl_nil]; done) | (simp [*]; done)))
local macro_rules | `(tactic| walk_at "wk") => `(tactic| first | exact All2.nil | (refine All2.cons ?_ ?_; walk_at "wk1"; walk_at "wk"))
local macro_rules | `(tactic| walk_at "tgi") => `(tactic| first | exact fun _ _ _ h => h | exact fun _ _ _ h => tup_sl h)
local macro_rules | `(tactic| walk_at "pre") => `(tactic| first | (with_reducible assumption) | trivial | omega | (refine ⟨?_, ?_⟩ <;> walk_at "pre"))
section
variable {P : Program} {w : World} {K : PySem.W.Frag} {mg : Str → Option Value} {base : Heap} (T : Bt mg)
/-! _law_cell_at -/
abbrev sp_cell_at (K : PySem.W.Frag) : Sp := sp2 K (fun ns k => 0 ≤ k) sscr dI (fun ns k => dI (cellA ns k))
theorem sc_cell_at : FnScope ["_law_script", "_law_k"] ["_law_script", "_law_k"] (defScope (top 11)) := ⟨rfl, rfl, rfl, by decide +kernel, rfl, by decide +kernel, by decide +kernel⟩
include T in
theorem ok_cell_at {f : Addr} {fd : FuncData} (F : Fun K "_law_cell_at" "_law_cell_at" (top 11) f fd) : FnOk P w K mg base CX0 1 f fd ["_law_script", "_law_k"] (sp_cell_at K) := by
  refine fn2 F sc_cell_at rfl fun script k hp cdv A outer s H S0 A0 E Q hr F' hq => ?_
  refine blk_ifRet (te_cmp (ev_callB F' T.len boot_len (ar_cons (ev_var 0) ar_nil) (by walk_at "cl")) ev_int (by walk_at "cmp")) (fun hc => ?_) (fun hc => ?_)
  · have hl : (0 : Int) < script.length := of_decide_eq_true hc
    have h := cell_at_ok (ns := script) (k := k) (by omega)
    exact blk_ret (ev_ix (ev_var 0) (ev_bin (ev_var 1) (ev_callB F' T.len boot_len (ar_cons (ev_var 0) ar_nil) (by walk_at "cl")) (by walk_at "bin")) (by walk_at "ix")) (retE hq (by rfl))
  · have hl : ¬ (0 : Int) < script.length := of_decide_eq_false hc
    exact blk_ret ev_int (retE hq (by unfold cellA; rw [if_neg (by omega)]))

/-! _law_by -/
abbrev sp_by (K : PySem.W.Frag) : Sp := sp3 K (fun ns k m => (ns.length ≤ 63 ∧ 0 ≤ k) ∧ (k < 1000000 ∧ 0 < m)) sscr dI dI (fun ns k m => dI (byA ns k m))
theorem sc_by : FnScope ["_law_script", "_law_k", "_law_many", "_law_cell", "_law_part", "_law_seed"] ["_law_script", "_law_k", "_law_many"] (defScope (top 12)) := ⟨rfl, rfl, rfl, by decide +kernel, rfl, by decide +kernel, by decide +kernel⟩
include T in
theorem ok_by (d_cell_at : Def P w K mg base "_law_cell_at" ["_law_script", "_law_k"] 1 (sp_cell_at K)) {f : Addr} {fd : FuncData} (F : Fun K "_law_by" "_law_by" (top 12) f fd) : FnOk P w K mg base CX0 2 f fd ["_law_script", "_law_k", "_law_many"] (sp_by K) := by
  refine fn3 F sc_by rfl fun script k many hp cdv A outer s H S0 A0 E Q hr F' hq => ?_
  have c_cell_at := d_cell_at.cal hr
  obtain ⟨⟨hl, hk⟩, hk2, hm⟩ := hp
  refine blk_asg F' 3 (ev_call2 F' c_cell_at (ar_cons (ev_var 0) (ar_cons (ev_var 1) ar_nil)) (by walk_at "pre")) ?_
  refine blk_asg F' 4 ev_int ?_
  refine blk_if (Γ' := [some (sscr script), some (dI k), some (dI many), some (dI (cellA script k)), some (dI (partA script k)), none]) (R' := []) (te_cmp (ev_var 3) (ev_pow 1000000000000000000 ev_int ev_int) (by walk_at "cmp")) (fun hc => ?_) (fun hc => ?_) ?_
  · have h1 : (1000000000000000000 : Int) ≤ cellA script k := of_decide_eq_true hc
    have h2 : 0 < script.length := by
      by_cases h : 0 < script.length
      · exact h
      · unfold cellA at h1
        rw [if_neg h] at h1
        omega
    have h3 : 0 ≤ k / (script.length : Int) := Int.ediv_nonneg hk (by omega)
    refine blk_asg F' 4 (ev_bin (ev_var 3) (ev_bin ev_int (ev_bin (ev_var 1) (ev_callB F' T.len boot_len (ar_cons (ev_var 0) ar_nil) (by walk_at "cl")) (by walk_at "bin")) (by walk_at "bin")) (by walk_at "bin")) ?_
    have h4 : partA script k = cellA script k / 2 ^ (20 * (k / script.length)).toNat := if_pos h1
    rw [h4]
    exact blk_end (wkG (by walk_at "wk")) rfl
  · have h1 : ¬ (1000000000000000000 : Int) ≤ cellA script k := of_decide_eq_false hc
    have h4 : partA script k = 0 := if_neg h1
    rw [h4]
    exact blk_end (wkG (by walk_at "wk")) rfl
  refine blk_ifRet (te_cmp (ev_var 4) ev_int (by walk_at "cmp")) (fun hc => ?_) (fun hc => ?_)
  · have h1 := of_decide_eq_true hc
    exact blk_ret (ev_bin (ev_var 4) (ev_var 2) (by walk_at "bin")) (retE hq (by unfold byA; rw [if_pos h1]))
  have h1 := of_decide_eq_false hc
  refine blk_asg F' 5 (ev_bin (ev_bin (ev_bin (ev_var 3) ev_int (by walk_at "bin")) (ev_bin (ev_bin ev_int (ev_var 1) (by walk_at "bin")) (ev_var 1) (by walk_at "bin")) (by walk_at "bin")) ev_int (by walk_at "bin")) ?_
  exact blk_ret (ev_bin (ev_bin (ev_bin (ev_bin (ev_bin (ev_var 5) ev_int (by walk_at "bin")) ev_int (by walk_at "bin")) ev_int (by walk_at "bin")) ev_int (by walk_at "bin")) (ev_var 2) (by walk_at "bin")) (retE hq (by unfold byA; rw [if_neg h1]))

/-! is_lighter -/
abbrev sp_is_lighter (K : PySem.W.Frag) : Sp := sp4 K (fun a v b w => (0 ≤ v ∧ v ≤ 20) ∧ (0 ≤ w ∧ w ≤ 20)) dI dI dI dI (fun a v b w => dB (decide (a * w < b * v)))
theorem sc_is_lighter : FnScope ["a", "v", "b", "w"] ["a", "v", "b", "w"] (defScope (top 4)) := ⟨rfl, rfl, rfl, by decide +kernel, rfl, by decide +kernel, by decide +kernel⟩
theorem ok_is_lighter {f : Addr} {fd : FuncData} (F : Fun K "is_lighter" "is_lighter" (top 4) f fd) : FnOk P w K mg base CX0 1 f fd ["a", "v", "b", "w"] (sp_is_lighter K) := by
  refine fn4 F sc_is_lighter rfl fun a v b w hp cdv A outer s H S0 A0 E Q hr F' hq => ?_
  obtain ⟨⟨h1, h2⟩, h3, h4⟩ := hp
  exact blk_ret (ev_cmp (ev_bin (ev_var 0) (ev_var 3) (by walk_at "bin")) (ev_bin (ev_var 2) (ev_var 1) (by walk_at "bin")) (by walk_at "cmp")) (retE hq (by rfl))


/-! room_in, next_place, dealt -/
abbrev dIL (z : List Int) : Sl := sd (.list (z.map .int))
abbrev sp_room_in (K : PySem.W.Frag) : Sp := sp2 K (fun held _ => held.length ≤ 1000) dIL dIL (fun held caps => dI (roomD held caps))
theorem sc_room_in : FnScope ["held", "caps", "many", "cap"] ["held", "caps"] (defScope (top 5)) := ⟨rfl, rfl, rfl, by decide +kernel, rfl, by decide +kernel, by decide +kernel⟩
include T in
theorem ok_room_in {f : Addr} {fd : FuncData} (F : Fun K "room_in" "room_in" (top 5) f fd) : FnOk P w K mg base CX0 1 f fd ["held", "caps"] (sp_room_in K) := by
  refine fn2 F sc_room_in rfl fun held caps hp cdv A outer s H S0 A0 E Q hr F' hq => ?_
  have hz : (held.zip caps).length ≤ 1000000 := by rw [List.length_zip]; have : held.length ≤ 1000 := hp; omega
  exact blk_ret (ev_callB F' T.sum boot_sum (ar_cons (frz (lc_el (lc_j (own := [("many", 2), ("cap", 3)]) F' (it_as (held.zip caps) (fun x => stup [dI x.1, dI x.2]) (it_zip F' T.zip (ev_var 0) (ev_var 1) ls_d ls_d) zip_ints) (fun _ => blkOk_at ["held", "caps", "many", "cap"] (defScope (top 5)) rfl rfl (by decide +kernel)) (fun F' => (tg_is (tg_tup F' (tgs_cons (tg_name F' 2) (tgs_cons (tg_name F' 3) tgs_nil))) (by walk_at "tgi"))) (by decide) (fun _ _ => ⟨trivial, trivial⟩) (fun F' D acc x hx => ts_nil) (fun F' D acc x hx hk => (ev_callB F' T.max boot_max (ar_cons ev_int (ar_cons (ev_bin (ev_var 3) (ev_var 2) (by walk_at "bin")) ar_nil)) (by walk_at "cl"))) (fun x hx hk => by walk_at "ad1") hz))) ar_nil) (cl_sum F' lv_d (by rw [List.all_map]; exact List.all_eq_true.mpr fun _ _ => rfl))) (retE hq (by rw [filt_true, List.map_map]; rfl))

/-- lists of a dealing -/
def dlOk (held ws caps : List Int) : Prop := ((held.length ≤ 1000 ∧ ws.length = held.length) ∧ caps.length = held.length) ∧ ∀ k, k < held.length → 1 ≤ ws.getD k 0 ∧ ws.getD k 0 ≤ 20
abbrev sp_next_place (K : PySem.W.Frag) : Sp := sp3 K (fun now ws caps => dlOk now ws caps) dIL dIL dIL (fun now ws caps => dOI (nextD now ws caps))
theorem sc_next_place : FnScope ["now", "weights", "caps", "best", "k"] ["now", "weights", "caps"] (defScope (top 6)) := ⟨rfl, rfl, rfl, by decide +kernel, rfl, by decide +kernel, by decide +kernel⟩
include T in
theorem ok_next_place (d_is_lighter : Def P w K mg base "is_lighter" ["a", "v", "b", "w"] 1 (sp_is_lighter K)) {f : Addr} {fd : FuncData} (F : Fun K "next_place" "next_place" (top 6) f fd) : FnOk P w K mg base CX0 2 f fd ["now", "weights", "caps"] (sp_next_place K) := by
  refine fn3 F sc_next_place rfl fun now ws caps hp cdv A outer s H S0 A0 E Q hr F' hq => ?_
  have c_is_lighter := d_is_lighter.cal hr
  obtain ⟨⟨⟨hln, hlw⟩, hlc⟩, hw⟩ := hp
  refine blk_asg F' 3 ev_none ?_
  refine blk_for (G := fun pre => [some (dIL now), some (dIL ws), some (dIL caps), some (dOI (pre.foldl (stepD now ws caps) none)), none]) (RR := fun pre => []) F' (fun _ => PassesOwn.never) (it_range1 F' T.range (ev_callB F' T.len boot_len (ar_cons (ev_var 0) ar_nil) (by walk_at "cl")) (by rw [List.length_map]; omega)) (tg_name F' 4) (wkG (by walk_at "wk")) (fun _ => trivial) (fun pre x post B' Z hs => ?_) ?_
  · have hpre : ∀ k, k ∈ pre ++ [x] → k < now.length := fun k hk => by
      have : k ∈ List.range ((now.map PyData.int).length : Int).toNat := by rw [hs]; rcases List.mem_append.mp hk with h | h; exact List.mem_append.mpr (.inl h); exact List.mem_append.mpr (.inr (by rw [List.mem_singleton.mp h]; exact List.mem_cons_self ..))
      simpa using this
    have hx := hpre x (by simp)
    have hfold : (pre ++ [x]).foldl (stepD now ws caps) none = stepD now ws caps (pre.foldl (stepD now ws caps) none) x := by rw [List.foldl_append]; rfl
    have hbest : ∀ b, pre.foldl (stepD now ws caps) none = some b → b < now.length := fun b hb => by
      rcases (fold_step pre none).2 b hb with h | h
      · exact nomatch h
      · exact hpre b (List.mem_append.mpr (.inl h.1))
    rw [hfold]
    generalize pre.foldl (stepD now ws caps) none = best at hbest ⊢
    have a1 := atI_ints (ns := now) hx
    have a2 := atI_ints (ns := ws) (k := x) (by omega)
    have a3 := atI_ints (ns := caps) (k := x) (by omega)
    have w1 := hw x hx
    refine blk_ifEnd (te_cmp (ev_ix (ev_var 0) (ev_var 4) (ix_lstI F' lv_d a1)) (ev_ix (ev_var 2) (ev_var 4) (ix_lstI F' lv_d a3)) (by walk_at "cmp")) (fun hc => ?_) (fun hc => ?_)
    · have hc := of_decide_eq_true hc
      cases best with
      | none =>
        have e : stepD now ws caps none x = some x := by unfold stepD; rw [if_pos hc]
        rw [e]
        refine blk_ifEnd (te_bop (tw_or (k := true) (j := false) (te_cmp (s1 := dN) (ev_var 3) ev_none br_isN) fun hb => nomatch hb)) (fun hc => ?_) (fun hc => nomatch hc)
        refine blk_asg F' 3 (ev_var 4) ?_
        exact blk_end (wkG (by walk_at "wk")) rfl
      | some b =>
        have hb := hbest b rfl
        have b1 := atI_ints (ns := now) hb
        have b2 := atI_ints (ns := ws) (k := b) (by omega)
        have w2 := hw b hb
        have e : stepD now ws caps (some b) x = if (now.getD x 0 + 1) * ws.getD b 0 < (now.getD b 0 + 1) * ws.getD x 0 then some x else some b := by unfold stepD; rw [if_pos hc]
        rw [e]
        refine blk_ifEnd (te_bop (tw_or (k := false) (te_cmp (s1 := dI (b : Int)) (ev_var 3) ev_none br_isN) fun hb => (tw_or1 (te_val (ev_call4 (x1 := now.getD x 0 + 1) (x2 := ws.getD x 0) (x3 := now.getD b 0 + 1) (x4 := ws.getD b 0) F' c_is_lighter (ar_cons (ev_bin (ev_ix (ev_var 0) (ev_var 4) (ix_lstI F' lv_d a1)) ev_int (by walk_at "bin")) (ar_cons (ev_ix (ev_var 1) (ev_var 4) (ix_lstI F' lv_d a2)) (ar_cons (ev_bin (ev_ix (ev_var 0) (ev_var 3 (s := dI (b : Int))) (ix_lstI F' lv_d b1)) ev_int (by walk_at "bin")) (ar_cons (ev_ix (ev_var 1) (ev_var 3 (s := dI (b : Int))) (ix_lstI F' lv_d b2)) ar_nil)))) (by exact ⟨⟨by omega, by omega⟩, by omega, by omega⟩)))))) (fun hc => ?_) (fun hc => ?_)
        · have hc : (now.getD x 0 + 1) * ws.getD b 0 < (now.getD b 0 + 1) * ws.getD x 0 := by simpa using hc
          rw [if_pos hc]
          refine blk_asg F' 3 (ev_var 4) ?_
          exact blk_end (wkG (by walk_at "wk")) rfl
        · have hc : ¬ (now.getD x 0 + 1) * ws.getD b 0 < (now.getD b 0 + 1) * ws.getD x 0 := by simpa using hc
          rw [if_neg hc]
          exact blk_end (wkG (by walk_at "wk")) rfl
    · have hc := of_decide_eq_false hc
      have e : stepD now ws caps best x = best := by unfold stepD; rw [if_neg hc]
      rw [e]
      exact blk_end (wkG (by walk_at "wk")) rfl
  exact blk_ret (ev_var 3) (retE hq (by rw [List.length_map, Int.toNat_natCast]; rfl))

theorem dl_set {held ws caps : List Int} {p : Nat} {z : Int} (h : dlOk held ws caps) : dlOk (held.set p z) ws caps := by
  obtain ⟨⟨⟨h1, h2⟩, h3⟩, h4⟩ := h
  exact ⟨⟨⟨by rw [List.length_set]; exact h1, by rw [List.length_set]; exact h2⟩, by rw [List.length_set]; exact h3⟩, fun k hk => h4 k (by rw [List.length_set] at hk; exact hk)⟩
abbrev sp_dealt (K : PySem.W.Frag) : Sp := spL4 K (fun held ws caps many => dlOk held ws caps ∧ (0 ≤ many ∧ many ≤ 100000) ∧ many ≤ roomD held caps) dIL dIL dIL dI (fun (held ws caps : List Int) (many : Int) => (dealD ws caps many.toNat held).map fun (p : Nat) => PyData.int (p : Int))
abbrev sp_dealtX (C : Addr) (K : PySem.W.Frag) : Sp := spR K (θ := List Int × List Int × List Int × Int) (fun i => dlOk i.1 i.2.1 i.2.2.1 ∧ roomD i.1 i.2.2.1 < i.2.2.2) (fun i => [dIL i.1, dIL i.2.1, dIL i.2.2.1, dI i.2.2.2]) (fun _ => []) C (fun _ => [])
theorem sc_dealt : FnScope ["held", "weights", "caps", "many", "now", "found", "k", "place"] ["held", "weights", "caps", "many"] (defScope (top 7)) := ⟨rfl, rfl, rfl, by decide +kernel, rfl, by decide +kernel, by decide +kernel⟩
include T in
theorem ok_dealt (d_room_in : Def P w K mg base "room_in" ["held", "caps"] 1 (sp_room_in K)) (d_next_place : Def P w K mg base "next_place" ["now", "weights", "caps"] 2 (sp_next_place K)) {f : Addr} {fd : FuncData} (F : Fun K "dealt" "dealt" (top 7) f fd) : FnOk P w K mg base CX0 3 f fd ["held", "weights", "caps", "many"] (sp_dealt K) := by
  refine fnL4 F sc_dealt rfl fun held ws caps many hp cdv A outer s H S0 A0 E Q hr F' hq => ?_
  have c_room_in := d_room_in.cal hr
  have c_next_place := d_next_place.cal hr
  obtain ⟨hok, ⟨hm0, hm1⟩, hroom⟩ := hp
  refine blk_ifRet (te_cmp (ev_var 3) (ev_call2 (x1 := held) (x2 := caps) F' c_room_in (ar_cons (ev_var 0) (ar_cons (ev_var 2) ar_nil)) (by exact hok.1.1.1)) (by walk_at "cmp")) (fun hc => ?_) (fun hc => ?_)
  · exfalso
    have := of_decide_eq_true hc
    omega
  refine blk_asgN F' 4 (ev_callTN F' T.list boot_list (ar_cons (ev_var 0) ar_nil) (by walk_at "cl")) fun p_now => ?_
  refine blk_asgN F' 5 (el_lst ar_nil (by walk_at "ad")) fun p_found => ?_
  refine blk_forX (γ := List Int × List Nat) (I := fun pre g => ((dlOk g.1 ws caps ∧ g.2.length = pre.length) ∧ roomD g.1 caps = roomD held caps - pre.length) ∧ g.2 ++ dealD ws caps (many.toNat - pre.length) g.1 = dealD ws caps many.toNat held) (G := fun pre g => [some (dIL held), some (dIL ws), some (dIL caps), some (dI many), some (SL.sv (.ref p_now)), some (SL.sv (.ref p_found)), none, none]) (RR := fun pre g => [rL p_now (g.1.map .int), rL p_found (g.2.map fun (p : Nat) => PyData.int (p : Int))]) F' (fun _ => PassesOwn.never) (it_range1 F' T.range (ev_var 3) (by walk_at "ob")) (tg_name F' 6) (held, []) ⟨⟨⟨hok, rfl⟩, by simp⟩, by simp⟩ (wkE rfl (by walk_at "wk")) (fun _ _ _ => trivial) (fun pre x post g B' Z hs hI => ?_) (fun g hI => ?_)
  · obtain ⟨now, found⟩ := g
    obtain ⟨⟨⟨hok2, hfl⟩, hrm⟩, hd⟩ := hI
    have hok2 : dlOk now ws caps := hok2
    have hfl : found.length = pre.length := hfl
    have hrm : roomD now caps = roomD held caps - pre.length := hrm
    have hd : found ++ dealD ws caps (many.toNat - pre.length) now = dealD ws caps many.toNat held := hd
    have hpl : pre.length < many.toNat := by
      have := congrArg List.length hs
      rw [List.length_range] at this
      simp at this
      omega
    obtain ⟨p, hp1, hp2, hp3⟩ := next_some (now := now) (ws := ws) (caps := caps) (by omega)
    have hl2 := hok2.1.1.1
    have e1 : many.toNat - pre.length = (many.toNat - (pre.length + 1)) + 1 := by omega
    have e2 : dealD ws caps ((many.toNat - (pre.length + 1)) + 1) now = p :: dealD ws caps (many.toNat - (pre.length + 1)) (now.set p (now.getD p 0 + 1)) := by
      show (match nextD now ws caps with
        | none => []
        | some p => p :: dealD ws caps (many.toNat - (pre.length + 1)) (now.set p (now.getD p 0 + 1))) = _
      rw [hp1]
    rw [e1, e2] at hd
    refine blk_asgE F' 7 (dI (p : Int)) (ev_lend3 (x1 := now) (x2 := ws) (x3 := caps) F' c_next_place (ar_cons (ev_var 4) (ar_cons (ev_var 1) (ar_cons (ev_var 2) ar_nil))) (by walk_at "lend") (by exact hok2) (by rw [hp1]; exact flat_v)) (by rw [hp1]; rfl) ?_
    have a1 := atI_ints (ns := now) hp2
    refine blk_setItem F' 0 (d := .int (now.getD p 0 + 1)) (ev_bin (ev_ix (ev_var 4) (ev_var 7) (ix_lstI F' (lv_o 0 rfl) a1)) ev_int (by walk_at "bin")) (ev_var 4) (ev_var 7) (by walk_at "ad1") rfl (by omega) (by rw [List.length_map]; exact Int.ofNat_lt.mpr hp2) ?_
    refine blk_expr (ev_append F' 1 (ev_var 5) (ev_var 7) (by walk_at "ad1") rfl (by rw [List.length_map]; omega)) ?_
    refine blk_endX rfl (now.set p (now.getD p 0 + 1), found ++ [p]) (wkE (by
      show [_, _] = _
      rw [List.map_append, List.map_set, Int.toNat_natCast]
      rfl) (by walk_at "wk")) ⟨⟨⟨dl_set hok2, by simp [hfl]⟩, ?_⟩, ?_⟩
    · show roomD (now.set p (now.getD p 0 + 1)) caps = _
      rw [room_set (by rw [hok2.1.2]; exact Nat.le_refl _) hp2 hp3, hrm, List.length_append]
      simp
      omega
    · show (found ++ [p]) ++ dealD ws caps (many.toNat - (pre ++ [x]).length) (now.set p (now.getD p 0 + 1)) = _
      rw [← hd, List.append_assoc, List.length_append]
      rfl
  obtain ⟨now, found⟩ := g
  obtain ⟨_, hd⟩ := hI
  have hd : found ++ dealD ws caps (many.toNat - (List.range many.toNat).length) now = dealD ws caps many.toNat held := hd
  rw [List.length_range, Nat.sub_self] at hd
  have hd : found ++ [] = dealD ws caps many.toNat held := hd
  rw [List.append_nil] at hd
  exact blk_ret (ev_var 5) (retK 1 hq (by rw [← hd]) rfl)

theorem rng_at {n x : Nat} {pre post : List Nat} (h : List.range n = pre ++ x :: post) : x = pre.length := by
  have h1 : (List.range n)[pre.length]? = some x := by rw [h]; simp
  have h2 : pre.length < n := by
    have := congrArg List.length h
    simp at this
    omega
  rw [List.getElem?_range h2] at h1
  exact (Option.some.inj h1).symm
theorem rng_lt {n x : Nat} {pre post : List Nat} (h : List.range n = pre ++ x :: post) : x < n := List.mem_range.mp (by rw [h]; simp)
/-! _law_places -/
abbrev Pl := Int × Int × Int
abbrev plD (r : Pl) : PyData := .tuple [.int r.1, .int r.2.1, .int r.2.2]
def plOk (rs : List Pl) : Prop := rs.length ≤ 30 ∧ ∀ r ∈ rs, (1 ≤ r.2.1 ∧ r.2.1 ≤ 20) ∧ 0 ≤ r.1
theorem sl_pl (rs : List Pl) : (rs.map plD).map sl = rs.map fun r => sd (plD r) := by rw [List.map_map]; rfl
abbrev sp_places (K : PySem.W.Frag) : Sp := spM3 K (fun ns k most => ((ns.length ≤ 63 ∧ 0 ≤ k) ∧ k < 900000) ∧ 0 ≤ most ∧ most ≤ 30) sscr dI dI (fun _ _ most (rs : List Pl) => plOk rs ∧ (rs.length : Int) ≤ most) (fun rs => rs.map plD)
theorem sc_places : FnScope ["_law_script", "_law_k", "_law_most", "_law_many", "_law_level", "_law_rows", "_law_j", "_law_at", "_law_weight", "_law_held", "_law_cap"] ["_law_script", "_law_k", "_law_most"] (defScope (top 13)) := ⟨rfl, rfl, rfl, by decide +kernel, rfl, by decide +kernel, by decide +kernel⟩
include T in
theorem ok_places (d_cell_at : Def P w K mg base "_law_cell_at" ["_law_script", "_law_k"] 1 (sp_cell_at K)) (d_by : Def P w K mg base "_law_by" ["_law_script", "_law_k", "_law_many"] 2 (sp_by K)) {f : Addr} {fd : FuncData} (F : Fun K "_law_places" "_law_places" (top 13) f fd) : FnOk P w K mg base CX0 3 f fd ["_law_script", "_law_k", "_law_most"] (sp_places K) := by
  refine fnM3 F sc_places rfl fun script k most hp cdv A outer s H S0 A0 E Q hr F' hq => ?_
  have c_by := d_by.cal hr
  have c_cell_at := d_cell_at.cal hr
  obtain ⟨⟨⟨hl, hk⟩, hk2⟩, hmo0, hmo1⟩ := hp
  have a1 : 0 ≤ byA script k (most + 1) := by_nn (by omega)
  have a2 : byA script k (most + 1) < most + 1 := by_lt ⟨by omega, Int.le_refl _⟩
  refine blk_asg F' 3 (ev_call3 F' c_by (ar_cons (ev_var 0) (ar_cons (ev_var 1) (ar_cons (ev_bin (ev_var 2) ev_int (by walk_at "bin")) ar_nil))) (by exact ⟨⟨hl, hk⟩, by omega, by omega⟩)) ?_
  obtain ⟨mh, hmh, hmh1⟩ : ∃ m : Int, m = byA script k (most + 1) ∧ 0 ≤ m ∧ m ≤ most := ⟨_, rfl, by omega, by omega⟩
  rw [← hmh]
  refine blk_asg F' 4 (ev_call3 F' c_by (ar_cons (ev_var 0) (ar_cons (ev_bin (ev_var 1) ev_int (by walk_at "bin")) (ar_cons ev_int ar_nil))) (by exact ⟨⟨hl, by omega⟩, by omega, by decide⟩)) ?_
  have v1 : 0 ≤ byA script (k + 2) 9 := by_nn (by decide)
  have v2 : byA script (k + 2) 9 < 9 := by_lt (by decide)
  generalize byA script (k + 2) 9 = level at *
  refine blk_asgN F' 5 (el_lst ar_nil (by walk_at "ad")) fun p_rows => ?_
  have m3 : ∀ i : Nat, i < 3 → 0 < ([20, 20, 3] : List Int).getD i 0 ∧ ([20, 20, 3] : List Int).getD i 0 ≤ 20 := fun i hi => menu_all (Q := fun x => 0 < x ∧ x ≤ 20) (by decide) hi
  have t1 : 0 ≤ byA script (k + 3) 3 := by_nn (by decide)
  have t2 : byA script (k + 3) 3 < 3 := by_lt (by decide)
  refine blk_forX (γ := List Pl) (I := fun pre g => g.length = pre.length ∧ ∀ r ∈ g, (1 ≤ r.2.1 ∧ r.2.1 ≤ 20) ∧ 0 ≤ r.1) (G := fun pre g => [some (sscr script), some (dI k), some (dI most), some (dI mh), some (dI level), some (SL.sv (.ref p_rows)), none, none, none, none, none]) (RR := fun pre g => [rL p_rows (g.map plD)]) F' (fun _ => PassesOwn.never) (it_range1 F' T.range (ev_var 3) (by walk_at "ob")) (tg_name F' 6) [] ⟨rfl, (fun p hp => nomatch hp)⟩ (wkE rfl (by walk_at "wk")) (fun _ _ _ => trivial) (fun pre x post g B' Z hs hI => ?_) (fun g hI => ?_)
  · obtain ⟨h1, h2⟩ := hI
    have hx : x < mh.toNat := by
      have : x ∈ List.range mh.toNat := by rw [hs]; simp
      exact List.mem_range.mp this
    have hpl : pre.length < 31 := by
      have := congrArg List.length hs
      rw [List.length_range] at this
      simp at this
      omega
    refine blk_asg F' 7 (ev_bin (ev_bin (ev_var 1) ev_int (by walk_at "bin")) (ev_bin ev_int (ev_var 6) (by walk_at "bin")) (by walk_at "bin")) ?_
    obtain ⟨at', hat⟩ : ∃ z, z = k + 10 + 6 * (x : Int) := ⟨_, rfl⟩
    have hat0 : 0 ≤ at' := by omega
    have hat1 : at' < 990000 := by omega
    rw [← hat]
    obtain ⟨w1, w2⟩ := m3 (byA script (k + 3) 3).toNat (by omega)
    have w3 : 0 ≤ byA script at' (([20, 20, 3] : List Int).getD (byA script (k + 3) 3).toNat 0) := by_nn w1
    have w4 : byA script at' (([20, 20, 3] : List Int).getD (byA script (k + 3) 3).toNat 0) < 20 := by_lt ⟨w1, w2⟩
    refine blk_asg F' 8 (ev_bin ev_int (ev_call3 F' c_by (ar_cons (ev_var 0) (ar_cons (ev_var 7) (ar_cons (ev_ix (frz (el_lst (ar_cons ev_int (ar_cons ev_int (ar_cons ev_int ar_nil))) (by walk_at "ad"))) (ev_call3 F' c_by (ar_cons (ev_var 0) (ar_cons (ev_bin (ev_var 1) ev_int (by walk_at "bin")) (ar_cons ev_int ar_nil))) (by exact ⟨⟨hl, by omega⟩, by omega, by decide⟩)) (ix_menuI F' lv_d rfl t1 (by exact t2))) ar_nil))) (by exact ⟨⟨hl, hat0⟩, by omega, w1⟩)) (by walk_at "bin")) ?_
    obtain ⟨wt, hwt⟩ : ∃ z, z = 1 + byA script at' (([20, 20, 3] : List Int).getD (byA script (k + 3) 3).toNat 0) := ⟨_, rfl⟩
    have hwt1 : 1 ≤ wt ∧ wt ≤ 20 := by omega
    show Blk _ _ _ _ [_, _, _, _, _, _, _, _, some (dI (1 + byA script at' (([20, 20, 3] : List Int).getD (byA script (k + 3) 3).toNat 0))), _, _] _ _ _
    rw [← hwt]
    have d1 : 0 ≤ wt * level := Int.mul_nonneg (by omega) v1
    refine blk_asg F' 9 (ev_callB F' T.max boot_max (ar_cons ev_int (ar_cons (ev_bin (ev_bin (ev_bin (ev_var 8) (ev_var 4) (by walk_at "bin")) (ev_call3 F' c_by (ar_cons (ev_var 0) (ar_cons (ev_bin (ev_var 7) ev_int (by walk_at "bin")) (ar_cons ev_int ar_nil))) (by exact ⟨⟨hl, by omega⟩, by omega, by decide⟩)) (by walk_at "bin")) ev_int (by walk_at "bin")) ar_nil)) (by walk_at "cl")) ?_
    refine blk_ifX (γ := Int) (I := fun z => 0 ≤ z) (G := fun z => [some (sscr script), some (dI k), some (dI most), some (dI mh), some (dI level), some (SL.sv (.ref p_rows)), some (dI (x : Int)), some (dI at'), some (dI wt), some (dI z), none]) (RR := fun _ => [rL p_rows (g.map plD)]) (te_cmp (ev_call3 F' c_by (ar_cons (ev_var 0) (ar_cons (ev_bin (ev_var 7) ev_int (by walk_at "bin")) (ar_cons ev_int ar_nil))) (by exact ⟨⟨hl, by omega⟩, by omega, by decide⟩)) ev_int (by walk_at "cmp")) (fun hc => ?_) (fun hc => ?_) (fun held hheld => ?_)
    · refine blk_asg F' 9 (ev_call3 F' c_by (ar_cons (ev_var 0) (ar_cons (ev_bin (ev_var 7) ev_int (by walk_at "bin")) (ar_cons ev_int ar_nil))) (by exact ⟨⟨hl, by omega⟩, by omega, by decide⟩)) ?_
      exact blk_endX rfl _ (wkE rfl (by walk_at "wk")) (by_nn (by decide))
    · exact blk_endX rfl _ (wkE rfl (by walk_at "wk")) (by omega)
    refine blk_asg F' 10 (ev_callB F' T.max boot_max (ar_cons ev_int (ar_cons (ev_bin (ev_bin (ev_var 9) (ev_call3 F' c_by (ar_cons (ev_var 0) (ar_cons (ev_bin (ev_var 7) ev_int (by walk_at "bin")) (ar_cons ev_int ar_nil))) (by exact ⟨⟨hl, by omega⟩, by omega, by decide⟩)) (by walk_at "bin")) ev_int (by walk_at "bin")) ar_nil)) (by walk_at "cl")) ?_
    refine blk_ifX (γ := Int) (I := fun z => True) (G := fun z => [some (sscr script), some (dI k), some (dI most), some (dI mh), some (dI level), some (SL.sv (.ref p_rows)), some (dI (x : Int)), some (dI at'), some (dI wt), some (dI held), some (dI z)]) (RR := fun _ => [rL p_rows (g.map plD)]) (te_cmp (ev_call3 F' c_by (ar_cons (ev_var 0) (ar_cons (ev_bin (ev_var 7) ev_int (by walk_at "bin")) (ar_cons ev_int ar_nil))) (by exact ⟨⟨hl, by omega⟩, by omega, by decide⟩)) ev_int (by walk_at "cmp")) (fun hc => ?_) (fun hc => ?_) (fun cap _ => ?_)
    · have y1 : 0 ≤ byA script (at' + 5) 3 := by_nn (by decide)
      have y2 : byA script (at' + 5) 3 < 3 := by_lt (by decide)
      refine blk_asg F' 10 (ev_ix (frz (el_lst (ar_cons ev_int (ar_cons ev_int (ar_cons (ev_bin (ev_call2 F' c_cell_at (ar_cons (ev_var 0) (ar_cons (ev_var 7) ar_nil)) (by exact hat0)) (ev_bin (ev_pow 1000000000 ev_int ev_int) ev_int (by walk_at "bin")) (by walk_at "bin")) ar_nil))) (by walk_at "ad"))) (ev_call3 F' c_by (ar_cons (ev_var 0) (ar_cons (ev_bin (ev_var 7) ev_int (by walk_at "bin")) (ar_cons ev_int ar_nil))) (by exact ⟨⟨hl, by omega⟩, by omega, by decide⟩)) (ix_menuI F' lv_d rfl y1 (by exact y2))) ?_
      exact blk_endX rfl _ (wkE rfl (by walk_at "wk")) trivial
    · exact blk_endX rfl _ (wkE rfl (by walk_at "wk")) trivial
    refine blk_expr (ev_append F' 0 (d := plD (held, wt, cap)) (ev_var 5) (ev_tup (ar_cons (ev_var 9) (ar_cons (ev_var 8) (ar_cons (ev_var 10) ar_nil)))) (by exact ad_tup (by exact .cons ad_int (.cons ad_int (.cons ad_int .nil)))) rfl (by rw [List.length_map]; omega)) ?_
    refine blk_endX rfl (g ++ [(held, wt, cap)]) (wkE (by rw [List.map_append]; rfl) (by walk_at "wk")) ⟨by simp [h1], fun r hr => ?_⟩
    rcases List.mem_append.mp hr with h | h
    · exact h2 r h
    · rw [List.mem_singleton.mp h]
      exact ⟨hwt1, hheld⟩
  obtain ⟨h1, h2⟩ := hI
  exact blk_ret (ev_var 5) (retMK 0 hq g ⟨⟨by rw [List.length_range] at h1; omega, h2⟩, by rw [List.length_range] at h1; omega⟩ rfl rfl)

def heldL (rs : List Pl) : List Int := rs.map (·.1)
def wtsL (rs : List Pl) : List Int := rs.map (·.2.1)
def capsL (rs : List Pl) : List Int := rs.map (·.2.2)
theorem room_pl (rs : List Pl) : roomD (heldL rs) (capsL rs) = (rs.map fun r => max 0 (r.2.2 - r.1)).sum := by
  unfold roomD heldL capsL
  rw [List.zip_map', List.map_map]
  rfl
theorem pl_len {rs : List Pl} : (heldL rs).length = rs.length ∧ (wtsL rs).length = rs.length ∧ (capsL rs).length = rs.length := ⟨List.length_map .., List.length_map .., List.length_map ..⟩
theorem pl_get {rs : List Pl} {x : Nat} {r : Pl} (h : rs[x]? = some r) : (heldL rs).getD x 0 = r.1 ∧ (wtsL rs).getD x 0 = r.2.1 ∧ (capsL rs).getD x 0 = r.2.2 := by
  unfold heldL wtsL capsL
  simp only [List.getD_eq_getElem?_getD, List.getElem?_map, h, Option.map_some, Option.getD_some, and_self]
theorem pl_dl {rs : List Pl} (h : plOk rs) : dlOk (heldL rs) (wtsL rs) (capsL rs) := by
  obtain ⟨l1, l2, l3⟩ := pl_len (rs := rs)
  have h0 := h.1
  refine ⟨⟨⟨by omega, by omega⟩, by omega⟩, fun k hk => ?_⟩
  have hk : k < rs.length := by omega
  rw [(pl_get (List.getElem?_eq_getElem hk)).2.1]
  exact (h.2 _ (List.getElem_mem hk)).1
theorem pl_h0 {rs : List Pl} (h : plOk rs) (k : Nat) : 0 ≤ ato (heldL rs) k := by
  unfold ato
  by_cases hk : k < rs.length
  · rw [(pl_get (List.getElem?_eq_getElem hk)).1]
    exact (h.2 _ (List.getElem_mem hk)).2
  · have : (heldL rs)[k]? = none := List.getElem?_eq_none (by rw [(pl_len (rs := rs)).1]; omega)
    rw [List.getD_eq_getElem?_getD, this]
    exact Int.le_refl _
theorem pl_w {rs : List Pl} (h : plOk rs) (k : Nat) (hk : k < rs.length) : 1 ≤ ato (wtsL rs) k ∧ ato (wtsL rs) k ≤ 20 := by
  unfold ato
  rw [(pl_get (List.getElem?_eq_getElem hk)).2.1]
  exact (h.2 _ (List.getElem_mem hk)).1
/-! divisor, height -/
abbrev sp_divisor (K : PySem.W.Frag) : Sp := sp2 K (fun a b => 0 ≤ a ∧ 0 ≤ b) dI dI (fun a b => dI (Nat.gcd a.toNat b.toNat : Nat))
theorem sc_divisor : FnScope ["one", "other", "rest"] ["one", "other"] (defScope (top 8)) := ⟨rfl, rfl, rfl, by decide +kernel, rfl, by decide +kernel, by decide +kernel⟩
theorem ok_divisor {f : Addr} {fd : FuncData} (F : Fun K "divisor" "divisor" (top 8) f fd) : FnOk P w K mg base CX0 1 f fd ["one", "other"] (sp_divisor K) := by
  refine fn2 F sc_divisor rfl fun one other hp cdv A outer s H S0 A0 E Q hr F' hq => ?_
  obtain ⟨h1, h2⟩ := hp
  obtain ⟨m, rfl⟩ : ∃ m : Nat, one = m := ⟨one.toNat, by omega⟩
  obtain ⟨n, rfl⟩ : ∃ n : Nat, other = n := ⟨other.toNat, by omega⟩
  refine blk_whileX (γ := Nat × Nat) (fun g => Nat.gcd g.1 g.2 = Nat.gcd m n) (fun g => g.2) (fun g => decide ((0 : Int) < (g.2 : Int))) (fun g => [some (dI (g.1 : Int)), some (dI (g.2 : Int)), none]) (fun _ => []) F' (fun _ => PassesOwn.never) (m, n) rfl (wkE rfl (by walk_at "wk")) (fun g hI => te_cmp (ev_var 1) ev_int (by walk_at "cmp")) (fun g B' Z hI hk => ?_) (fun g hI hk => ?_)
  · have hk : (0 : Int) < (g.2 : Int) := of_decide_eq_true hk
    have hk2 : 0 < g.2 := by omega
    refine blk_asg F' 2 (ev_bin (ev_var 0) (ev_var 1) (br_mod hk)) ?_
    refine blk_asg F' 0 (ev_var 1) ?_
    refine blk_asg F' 1 (ev_var 2) ?_
    refine blk_endX rfl (g.2, g.1 % g.2) (wkE rfl (by walk_at "wk")) ⟨?_, Nat.mod_lt _ hk2⟩
    show Nat.gcd g.2 (g.1 % g.2) = _
    rw [← hI, Nat.gcd_comm g.1 g.2, Nat.gcd_rec g.2 g.1, Nat.gcd_comm]
  · have hk : ¬ (0 : Int) < (g.2 : Int) := of_decide_eq_false hk
    have hk2 : g.2 = 0 := by omega
    rw [hk2, Nat.gcd_zero_right] at hI
    exact blk_ret (ev_var 0) (retE hq (by rw [Int.toNat_natCast, Int.toNat_natCast, ← hI]))
def redA (b : Int × Int) : Int × Int := (b.1 / (Nat.gcd b.1.toNat b.2.toNat : Nat), b.2 / (Nat.gcd b.1.toNat b.2.toNat : Nat))
def htA (h w g : List Int) : Int × Int := redA (heavF (ato h) (ato w) (ato g) h.length)
def htOk (h w g : List Int) : Prop := ((h.length ≤ 1000 ∧ w.length = h.length) ∧ g.length = h.length) ∧ (∀ k, k < h.length → 1 ≤ ato w k ∧ ato w k ≤ 20) ∧ ∀ k, 0 ≤ ato h k
abbrev sp_height (K : PySem.W.Frag) : Sp := sp3 K htOk dIL dIL dIL (fun h w g => sd (.tuple [.int (htA h w g).1, .int (htA h w g).2]))
theorem sc_height : FnScope ["held", "weights", "got", "top", "bottom", "k", "by"] ["held", "weights", "got"] (defScope (top 9)) := ⟨rfl, rfl, rfl, by decide +kernel, rfl, by decide +kernel, by decide +kernel⟩
include T in
theorem ok_height (d_is_lighter : Def P w K mg base "is_lighter" ["a", "v", "b", "w"] 1 (sp_is_lighter K)) (d_divisor : Def P w K mg base "divisor" ["one", "other"] 1 (sp_divisor K)) {f : Addr} {fd : FuncData} (F : Fun K "height" "height" (top 9) f fd) : FnOk P w K mg base CX0 2 f fd ["held", "weights", "got"] (sp_height K) := by
  refine fn3 F sc_height rfl fun held ws got hp cdv A outer s H S0 A0 E Q hr F' hq => ?_
  have c_is_lighter := d_is_lighter.cal hr
  have c_divisor := d_divisor.cal hr
  obtain ⟨⟨⟨hl, hwl⟩, hgl⟩, hw, h0⟩ := hp
  have hl : held.length ≤ 1000 := hl
  refine blk_asg F' 3 ev_int ?_
  refine blk_asg F' 4 ev_int ?_
  refine blk_for (G := fun pre => [some (dIL held), some (dIL ws), some (dIL got), some (dI (heavF (ato held) (ato ws) (ato got) pre.length).1), some (dI (heavF (ato held) (ato ws) (ato got) pre.length).2), none, none]) (RR := fun pre => []) F' (fun _ => PassesOwn.never) (it_range1 F' T.range (ev_callB F' T.len boot_len (ar_cons (ev_var 0) ar_nil) (by walk_at "cl")) (by rw [List.length_map]; omega)) (tg_name F' 5) (wkE rfl (by walk_at "wk")) (fun _ => trivial) (fun pre x post B' Z hs => ?_) ?_
  · have hx := rng_at hs
    have hxl := rng_lt hs
    rw [List.length_map, Int.toNat_natCast] at hxl
    have a1 := atI_ints (ns := held) hxl
    have a2 := atI_ints (ns := ws) (k := x) (by omega)
    have a3 := atI_ints (ns := got) (k := x) (by omega)
    obtain ⟨i1, i2, i3⟩ := heavF_ok (g := ato got) h0 (n := pre.length) fun k hk => hw k (by omega)
    have hwx := hw x hxl
    have e1 : heavF (ato held) (ato ws) (ato got) (pre ++ [x]).length = if 0 < ato got x ∧ (heavF (ato held) (ato ws) (ato got) pre.length).1 * ato ws x < (ato held x + ato got x) * (heavF (ato held) (ato ws) (ato got) pre.length).2 then (ato held x + ato got x, ato ws x) else heavF (ato held) (ato ws) (ato got) pre.length := by
      rw [List.length_append, List.length_singleton, hx]
      rfl
    rw [e1]
    generalize heavF (ato held) (ato ws) (ato got) pre.length = b at *
    refine blk_ifEnd (te_bop (tw_and (te_cmp (ev_ix (ev_var 2) (ev_var 5) (ix_lstI F' lv_d a3)) ev_int (by walk_at "cmp")) fun hb => (tw_and1 (te_val (ev_call4 (x1 := b.1) (x2 := b.2) (x3 := ato held x + ato got x) (x4 := ato ws x) F' c_is_lighter (ar_cons (ev_var 3) (ar_cons (ev_var 4) (ar_cons (ev_bin (ev_ix (ev_var 0) (ev_var 5) (ix_lstI F' lv_d a1)) (ev_ix (ev_var 2) (ev_var 5) (ix_lstI F' lv_d a3)) (by exact br_add)) (ar_cons (ev_ix (ev_var 1) (ev_var 5) (ix_lstI F' lv_d a2)) ar_nil)))) (by exact ⟨⟨by omega, by omega⟩, by omega, by omega⟩)))))) (fun hc => ?_) (fun hc => ?_)
    · rw [Bool.and_eq_true] at hc
      have h1 : (0 : Int) < ato got x := of_decide_eq_true hc.1
      have h2 : b.1 * ato ws x < (ato held x + ato got x) * b.2 := of_decide_eq_true hc.2
      rw [if_pos ⟨h1, h2⟩]
      refine blk_asg F' 3 (ev_bin (ev_ix (ev_var 0) (ev_var 5) (ix_lstI F' lv_d a1)) (ev_ix (ev_var 2) (ev_var 5) (ix_lstI F' lv_d a3)) (by walk_at "bin")) ?_
      refine blk_asg F' 4 (ev_ix (ev_var 1) (ev_var 5) (ix_lstI F' lv_d a2)) ?_
      exact blk_endE rfl (by walk_at "wk") rfl
    · rw [Bool.and_eq_false_iff] at hc
      rw [if_neg (by
        rintro ⟨h1, h2⟩
        rcases hc with z | z
        · exact of_decide_eq_false z h1
        · exact of_decide_eq_false z h2)]
      exact blk_endE rfl (by walk_at "wk") rfl
  rw [List.length_map, Int.toNat_natCast, List.length_range]
  obtain ⟨i1, ⟨i2, i4⟩, i3⟩ := heavF_ok (g := ato got) h0 hw
  have hgc : 0 < Nat.gcd (heavF (ato held) (ato ws) (ato got) held.length).1.toNat (heavF (ato held) (ato ws) (ato got) held.length).2.toNat := Nat.gcd_pos_of_pos_right _ (by omega)
  have hgc2 : Nat.gcd (heavF (ato held) (ato ws) (ato got) held.length).1.toNat (heavF (ato held) (ato ws) (ato got) held.length).2.toNat ≤ (heavF (ato held) (ato ws) (ato got) held.length).2.toNat := Nat.gcd_le_right _ (by omega)
  refine blk_asg F' 6 (ev_call2 F' c_divisor (ar_cons (ev_var 3) (ar_cons (ev_var 4) ar_nil)) (by exact ⟨i3, by omega⟩)) ?_
  exact blk_ret (ev_d (ev_tup (ar_cons (ev_bin (ev_var 3) (ev_var 6) (br_fdiv (by exact ⟨by omega, by omega⟩))) (ar_cons (ev_bin (ev_var 4) (ev_var 6) (br_fdiv (by exact ⟨by omega, by omega⟩))) ar_nil))) (ad_tup (.cons ad_int (.cons ad_int .nil)))) (retE hq (by rfl))
/-! _law_key, _law_due, _law_least, _law_below, _law_got -/
theorem sc_pos {w : Int} (h : 1 ≤ w ∧ w ≤ 20) : 0 < SC / w ∧ SC / w ≤ SC := by
  have h3 : (SC / w) * w = SC := div_exact h.1 h.2
  have hn : 0 < SC / w := by
    by_cases hn : 0 < SC / w
    · exact hn
    · have h4 : (SC / w) * w ≤ 0 := Int.mul_nonpos_of_nonpos_of_nonneg (by omega) (by omega)
      rw [h3] at h4
      exact absurd h4 (by decide)
  refine ⟨hn, ?_⟩
  have h5 : (SC / w) * 1 ≤ (SC / w) * w := Int.mul_le_mul_of_nonneg_left h.1 (by omega)
  rw [h3] at h5
  omega
abbrev sp_key (K : PySem.W.Frag) : Sp := sp2 K (fun _ w => 1 ≤ w ∧ w ≤ 20) dI dI (fun v w => dI (v * (SC / w)))
theorem sc_key : FnScope ["_law_number", "_law_weight"] ["_law_number", "_law_weight"] (defScope (top 14)) := ⟨rfl, rfl, rfl, by decide +kernel, rfl, by decide +kernel, by decide +kernel⟩
theorem ok_key {f : Addr} {fd : FuncData} (F : Fun K "_law_key" "_law_key" (top 14) f fd) : FnOk P w K mg base CX0 1 f fd ["_law_number", "_law_weight"] (sp_key K) := by
  refine fn2 F sc_key rfl fun v w hp cdv A outer s H S0 A0 E Q hr F' hq => ?_
  obtain ⟨p1, p2⟩ := sc_pos hp
  obtain ⟨h1, h2⟩ := hp
  have p2 : (232792560 : Int) / w ≤ 232792560 := p2
  have p1 : 0 < (232792560 : Int) / w := p1
  exact blk_ret (ev_bin (ev_var 0) (ev_bin ev_int (ev_var 1) (br_fdiv (by exact ⟨by omega, by omega⟩))) (br_mul (by exact Or.inr ⟨by omega, by omega⟩))) (retE hq (by rfl))
def duL (rs : List Pl) (got : List Int) : Int := dueF (ato (heldL rs)) (ato (wtsL rs)) (ato got) rs.length
abbrev sp_due (K : PySem.W.Frag) : Sp := sp2 K (fun (rs : List Pl) (got : List Int) => plOk rs ∧ got.length = rs.length) (fun (rs : List Pl) => sd (.list (rs.map plD))) dIL (fun rs got => dI (duL rs got))
theorem sc_due : FnScope ["_law_rows", "_law_got_here", "_law_keys", "_law_k"] ["_law_rows", "_law_got_here"] (defScope (top 15)) := ⟨rfl, rfl, rfl, by decide +kernel, rfl, by decide +kernel, by decide +kernel⟩
theorem pl_at {rs : List Pl} {x : Nat} (h : x < rs.length) : atI (rs.map plD) (x : Int) = some (.tuple [.int (ato (heldL rs) x), .int (ato (wtsL rs) x), .int (ato (capsL rs) x)]) := by
  have e := List.getElem?_eq_getElem h
  obtain ⟨e1, e2, e3⟩ := pl_get e
  refine atI_nat (j := x) ?_
  rw [List.getElem?_map, e]
  unfold ato
  rw [e1, e2, e3]
  rfl
theorem filt_due {h w g : Nat → Int} {n : Nat} : (∀ y ∈ ((List.range n).filter fun k => decide (0 < g k)).map (fun k => (h k + g k) * (SC / w k)), y ≤ dueF h w g n) ∧ (dueF h w g n = 0 ∨ dueF h w g n ∈ ((List.range n).filter fun k => decide (0 < g k)).map (fun k => (h k + g k) * (SC / w k))) := by
  refine ⟨fun y hy => ?_, ?_⟩
  · obtain ⟨k, hk, rfl⟩ := List.mem_map.mp hy
    obtain ⟨h1, h2⟩ := List.mem_filter.mp hk
    exact dueF_ge (List.mem_range.mp h1) (of_decide_eq_true h2)
  · rcases dueF_at (h := h) (w := w) (g := g) n with z | ⟨k, a, b, c⟩
    · exact .inl z
    · exact .inr (List.mem_map.mpr ⟨k, List.mem_filter.mpr ⟨List.mem_range.mpr a, decide_eq_true b⟩, c.symm⟩)
include T in
theorem ok_due (d_key : Def P w K mg base "_law_key" ["_law_number", "_law_weight"] 1 (sp_key K)) {f : Addr} {fd : FuncData} (F : Fun K "_law_due" "_law_due" (top 15) f fd) : FnOk P w K mg base CX0 2 f fd ["_law_rows", "_law_got_here"] (sp_due K) := by
  refine fn2 F sc_due rfl fun rs got hp cdv A outer s H S0 A0 E Q hr F' hq => ?_
  have c_key := d_key.cal hr
  obtain ⟨hok, hgl⟩ := hp
  have hln : rs.length ≤ 30 := hok.1
  obtain ⟨l1, l2, l3⟩ := pl_len (rs := rs)
  refine blk_asgLc F' 2 (lc_j (own := [("_law_k", 3)]) (k := fun x => decide ((0 : Int) < ato got x)) (d := fun x => PyData.int ((ato (heldL rs) x + ato got x) * (SC / ato (wtsL rs) x))) F' (it_range1 F' T.range (ev_callB F' T.len boot_len (ar_cons (ev_var 0) ar_nil) (by walk_at "cl")) (by rw [List.length_map]; omega)) (fun _ => blkOk_at ["_law_rows", "_law_got_here", "_law_keys", "_law_k"] (defScope (top 15)) rfl rfl (by decide +kernel)) (fun F' => (tg_name F' 3)) (by decide) (by walk_at "hC") (fun F' D acc x hx => (ts_one (te_cmp (ev_ix (ev_var 1) (ev_var 3) (ix_lstI F' lv_d (atI_ints (by rw [List.length_map, Int.toNat_natCast, List.mem_range] at hx; omega)))) ev_int (by exact br_gt)))) (fun F' D acc x hx hk => by
    have hx' : x < rs.length := by rw [List.length_map, Int.toNat_natCast, List.mem_range] at hx; exact hx
    exact (ev_call2 F' c_key (ar_cons (ev_bin (ev_ix (ev_ix (ev_var 0) (ev_var 3) (ix_lstT F' lv_d (pl_at hx'))) ev_int (ix_tplI F' tv_d atI0)) (ev_ix (ev_var 1) (ev_var 3) (ix_lstI F' lv_d (atI_ints (by omega)))) (by walk_at "bin")) (ar_cons (ev_ix (ev_ix (ev_var 0) (ev_var 3) (ix_lstT F' lv_d (pl_at hx'))) ev_int (ix_tplI F' tv_d atI1)) ar_nil)) (by exact pl_w hok x hx'))) (fun x hx hk => by exact ad_int) (by rw [List.length_range, List.length_map]; omega)) fun p_keys => ?_
  have hk : ∀ y ∈ ((List.range rs.length).filter fun k => decide (0 < ato got k)).map (fun k => (ato (heldL rs) k + ato got k) * (SC / ato (wtsL rs) k)), y ≤ duL rs got := filt_due.1
  have hk2 : duL rs got = 0 ∨ duL rs got ∈ ((List.range rs.length).filter fun k => decide (0 < ato got k)).map (fun k => (ato (heldL rs) k + ato got k) * (SC / ato (wtsL rs) k)) := filt_due.2
  have hk3 : 0 ≤ duL rs got := dueF_nn _
  rw [List.length_map, Int.toNat_natCast]
  have ed : (([PyData.int 0] ++ ((List.range rs.length).filter fun x => decide ((0 : Int) < ato got x)).map fun x => PyData.int ((ato (heldL rs) x + ato got x) * (SC / ato (wtsL rs) x))).map dint) = 0 :: ((List.range rs.length).filter fun k => decide (0 < ato got k)).map (fun k => (ato (heldL rs) k + ato got k) * (SC / ato (wtsL rs) k)) := by
    rw [List.map_append, List.map_map]
    rfl
  refine blk_ret (ev_callB F' T.max boot_max (ar_cons (frz (ev_binN (frz (el_lst (ar_cons ev_int ar_nil) (by walk_at "ad"))) (ev_var 2) (bn_cat lv_d (lv_o 0 rfl) (by
    have := List.length_filter_le (fun x => decide ((0 : Int) < ato got x)) (List.range rs.length)
    rw [List.length_range] at this
    rw [List.length_map]
    simp
    omega)))) ar_nil) (cl_maxL F' lv_d (m := duL rs got) ?_ (by
      rw [ed]
      rcases hk2 with z | z
      · rw [z]; exact List.mem_cons_self ..
      · exact List.mem_cons_of_mem _ z) (by
      rw [ed]
      intro y hy
      rcases List.mem_cons.mp hy with z | z
      · rw [z]; exact hk3
      · exact hk y z))) (retE hq rfl)
  rw [List.all_append, List.all_map]
  exact Bool.and_eq_true_iff.mpr ⟨rfl, List.all_eq_true.mpr fun _ _ => rfl⟩
abbrev sp_least (K : PySem.W.Frag) : Sp := sp2 K (fun t b => (1 ≤ b ∧ b ≤ 20) ∧ 0 ≤ t ∧ Nat.gcd t.toNat b.toNat = 1) dI dI (fun _ _ => dB true)
theorem sc_least : FnScope ["_law_top", "_law_bottom", "_law_by_here"] ["_law_top", "_law_bottom"] (defScope (top 16)) := ⟨rfl, rfl, rfl, by decide +kernel, rfl, by decide +kernel, by decide +kernel⟩
include T in
theorem ok_least {f : Addr} {fd : FuncData} (F : Fun K "_law_least" "_law_least" (top 16) f fd) : FnOk P w K mg base CX0 1 f fd ["_law_top", "_law_bottom"] (sp_least K) := by
  refine fn2 F sc_least rfl fun t b hp cdv A outer s H S0 A0 E Q hr F' hq => ?_
  obtain ⟨⟨h1, h2⟩, h3, h4⟩ := hp
  refine blk_ret (ev_cmp ev_int (frz (lc_el (lc_j (own := [("_law_by_here", 2)]) F' (it_range2 F' T.range ev_int (ev_bin (ev_var 1) ev_int (by walk_at "bin")) (by omega)) (fun _ => blkOk_at ["_law_top", "_law_bottom", "_law_by_here"] (defScope (top 16)) rfl rfl (by decide +kernel)) (fun F' => (tg_name F' 2)) (by decide) (by walk_at "hC") (fun F' D acc x hx => ts_nil) (fun F' D acc x hx hk => (ev_bin (ev_bin (ev_var 0) (ev_var 2) (by walk_at "bin")) (ev_bin (ev_var 1) (ev_var 2) (by walk_at "bin")) (by walk_at "bin"))) (fun x hx hk => by walk_at "ad1") (by simp; omega)))) (br_ninI F' lv_d (by rw [List.all_map]; exact List.all_eq_true.mpr fun _ _ => rfl))) (retE hq ?_)
  refine congrArg (fun z => dB z) ?_
  rw [filt_true, List.map_map, Bool.not_eq_true', decide_eq_false_iff_not]
  intro hm
  obtain ⟨x, hx, e⟩ := List.mem_map.mp hm
  have e : t % (2 + (x : Int)) + b % (2 + (x : Int)) = 0 := e
  have a1 := Int.emod_nonneg t (show (2 + (x : Int)) ≠ 0 by omega)
  have a2 := Int.emod_nonneg b (show (2 + (x : Int)) ≠ 0 by omega)
  have d1 : (2 + (x : Int)) ∣ t := Int.dvd_of_emod_eq_zero (by omega)
  have d2 : (2 + (x : Int)) ∣ b := Int.dvd_of_emod_eq_zero (by omega)
  have n1 : (2 + x) ∣ t.toNat := by
    have : ((2 + x : Nat) : Int) ∣ (t.toNat : Int) := by rw [Int.toNat_of_nonneg h3]; exact d1
    exact Int.natCast_dvd_natCast.mp this
  have n2 : (2 + x) ∣ b.toNat := by
    have : ((2 + x : Nat) : Int) ∣ (b.toNat : Int) := by rw [Int.toNat_of_nonneg (by omega)]; exact d2
    exact Int.natCast_dvd_natCast.mp this
  have := Nat.dvd_gcd n1 n2
  rw [h4] at this
  have := Nat.le_of_dvd (by decide) this
  omega
def blL (rs : List Pl) (key : Int) : Int := belF (ato (heldL rs)) (ato (wtsL rs)) (ato (capsL rs)) key rs.length
def blT (key : Int) (r : Pl) : Int := max 0 (min r.2.2 ((key - 1) / (SC / r.2.1)) - r.1)
theorem bl_sum (rs : List Pl) (key : Int) : (rs.map (blT key)).sum = blL rs key := by
  rw [map_sumF _ (0, 0, 0)]
  refine sumF_congr fun k hk => ?_
  have e := List.getElem?_eq_getElem hk
  obtain ⟨e1, e2, e3⟩ := pl_get e
  unfold ato
  rw [e1, e2, e3, List.getD_eq_getElem?_getD, e]
  rfl
abbrev sp_below (K : PySem.W.Frag) : Sp := sp2 K (fun (rs : List Pl) _ => plOk rs) (fun (rs : List Pl) => sd (.list (rs.map plD))) dI (fun rs key => dI (blL rs key))
theorem sc_below : FnScope ["_law_rows", "_law_key_here", "_law_found", "_law_held", "_law_weight", "_law_cap", "_law_under"] ["_law_rows", "_law_key_here"] (defScope (top 18)) := ⟨rfl, rfl, rfl, by decide +kernel, rfl, by decide +kernel, by decide +kernel⟩
include T in
theorem ok_below {f : Addr} {fd : FuncData} (F : Fun K "_law_below" "_law_below" (top 18) f fd) : FnOk P w K mg base CX0 1 f fd ["_law_rows", "_law_key_here"] (sp_below K) := by
  refine fn2 F sc_below rfl fun rs key hp cdv A outer s H S0 A0 E Q hr F' hq => ?_
  have hok : plOk rs := hp
  refine blk_asg F' 2 ev_int ?_
  refine blk_for (G := fun pre => [some (sd (.list (rs.map plD))), some (dI key), some (dI (pre.map (blT key)).sum), none, none, none, none]) (RR := fun pre => []) F' (fun _ => PassesOwn.never) (it_as rs (fun r => sd (plD r)) (it_ls F' (ev_var 0) (by walk_at "ls")) (sl_pl _)) (tg_is (tg_tup F' (tgs_cons (tg_name F' 3) (tgs_cons (tg_name F' 4) (tgs_cons (tg_name F' 5) tgs_nil)))) tup_III) (wkE rfl (by walk_at "wk")) (fun _ => trivial) (fun pre x post B' Z hs => ?_) ?_
  · obtain ⟨⟨w1, w2⟩, _⟩ := hok.2 x (by rw [hs]; simp)
    obtain ⟨p1, p2⟩ := sc_pos ⟨w1, w2⟩
    have p2 : (232792560 : Int) / x.2.1 ≤ 232792560 := p2
    have p1 : 0 < (232792560 : Int) / x.2.1 := p1
    refine blk_asg F' 6 (ev_bin (ev_bin (ev_var 1) ev_int (by walk_at "bin")) (ev_bin ev_int (ev_var 4) (br_fdiv (by exact ⟨by omega, by omega⟩))) (br_fdiv (by exact ⟨by omega, by omega⟩))) ?_
    refine blk_asg F' 2 (ev_bin (ev_var 2) (ev_callB F' T.max boot_max (ar_cons ev_int (ar_cons (ev_bin (ev_callB F' T.min boot_min (ar_cons (ev_var 5) (ar_cons (ev_var 6) ar_nil)) (by walk_at "cl")) (ev_var 3) (by walk_at "bin")) ar_nil)) (by walk_at "cl")) (by walk_at "bin")) ?_
    refine blk_endE rfl ?_ rfl
    rw [List.map_append, List.sum_append]
    refine All2.cons wk_same (All2.cons wk_same (All2.cons (wk_eq ?_) (All2.cons wk_none (All2.cons wk_none (All2.cons wk_none (All2.cons wk_none All2.nil))))))
    refine congrArg (fun z => dI z) ?_
    simp [blT]
  exact blk_ret (ev_var 2) (retE hq (by rw [bl_sum]))
def gotL (n : Nat) (ps : List Nat) : List Int := (List.range n).map fun k => (ps.count k : Int)
theorem count_int (ps : List Nat) (k : Nat) : (((ps.map fun (p : Nat) => PyData.int (p : Int)).map dint).count (k : Int)) = ps.count k := by
  rw [List.map_map]
  show (ps.map fun (p : Nat) => (p : Int)).count (k : Int) = _
  induction ps with
  | nil => rfl
  | cons p ps ih =>
    rw [List.map_cons, List.count_cons, List.count_cons, ih]
    have : ((p : Int) == (k : Int)) = (p == k) := by
      by_cases z : p = k
      · subst z; exact (beq_self_eq_true _).trans (beq_self_eq_true _).symm
      · have : ¬ (p : Int) = (k : Int) := fun y => z (Int.ofNat.inj y)
        rw [beq_eq_false_iff_ne.mpr z, beq_eq_false_iff_ne.mpr this]
    rw [this]
abbrev sp_got (K : PySem.W.Frag) : Sp := spL2 K (fun (rs : List Pl) _ => plOk rs) (fun (rs : List Pl) => sd (.list (rs.map plD))) (fun (ps : List Nat) => sd (.list (ps.map fun (p : Nat) => PyData.int (p : Int)))) (fun rs ps => (gotL rs.length ps).map .int)
theorem sc_got : FnScope ["_law_rows", "_law_places_here", "_law_k"] ["_law_rows", "_law_places_here"] (defScope (top 19)) := ⟨rfl, rfl, rfl, by decide +kernel, rfl, by decide +kernel, by decide +kernel⟩
include T in
theorem ok_got {f : Addr} {fd : FuncData} (F : Fun K "_law_got" "_law_got" (top 19) f fd) : FnOk P w K mg base CX0 1 f fd ["_law_rows", "_law_places_here"] (sp_got K) := by
  refine fnL2 F sc_got rfl fun rs ps hp cdv A outer s H S0 A0 E Q hr F' hq => ?_
  have hok : plOk rs := hp
  have hln : rs.length ≤ 30 := hok.1
  exact blk_retN (lc_el (lc_j (own := [("_law_k", 2)]) F' (it_range1 F' T.range (ev_callB F' T.len boot_len (ar_cons (ev_var 0) ar_nil) (by walk_at "cl")) (by rw [List.length_map]; omega)) (fun _ => blkOk_at ["_law_rows", "_law_places_here", "_law_k"] (defScope (top 19)) rfl rfl (by decide +kernel)) (fun F' => (tg_name F' 2)) (by decide) (by walk_at "hC") (fun F' D acc x hx => ts_nil) (fun F' D acc x hx hk => (ev_count F' (ev_var 1) lv_d (by rw [List.all_map]; exact List.all_eq_true.mpr fun _ _ => rfl) (ev_var 2))) (fun x hx hk => by walk_at "ad1") (by rw [List.length_range, List.length_map]; omega))) (retLK hq (by
    rw [filt_true, List.length_map, Int.toNat_natCast]
    exact (List.map_congr_left fun k _ => congrArg (fun (z : Nat) => PyData.int (z : Int)) (count_int ps k)).trans (by unfold gotL; rw [List.map_map]; rfl)))
theorem sc_mod {b : Int} (h0 : 1 ≤ b) (h1 : b ≤ 20) : SC % b = 0 := by
  have : b = 1 ∨ b = 2 ∨ b = 3 ∨ b = 4 ∨ b = 5 ∨ b = 6 ∨ b = 7 ∨ b = 8 ∨ b = 9 ∨ b = 10 ∨ b = 11 ∨ b = 12 ∨ b = 13 ∨ b = 14 ∨ b = 15 ∨ b = 16 ∨ b = 17 ∨ b = 18 ∨ b = 19 ∨ b = 20 := by omega
  rcases this with h | h | h | h | h | h | h | h | h | h | h | h | h | h | h | h | h | h | h | h <;> subst h <;> decide
theorem redA_ok {b : Int × Int} (h : (1 ≤ b.2 ∧ b.2 ≤ 20) ∧ 0 ≤ b.1) : ((1 ≤ (redA b).2 ∧ (redA b).2 ≤ 20) ∧ 0 ≤ (redA b).1 ∧ Nat.gcd (redA b).1.toNat (redA b).2.toNat = 1) ∧ (redA b).1 * (SC / (redA b).2) = b.1 * (SC / b.2) := by
  obtain ⟨t, v⟩ := b
  obtain ⟨⟨h1, h2⟩, h3⟩ := h
  have h1 : 1 ≤ v := h1
  have h2 : v ≤ 20 := h2
  have h3 : 0 ≤ t := h3
  obtain ⟨m, rfl⟩ : ∃ m : Nat, t = m := ⟨t.toNat, by omega⟩
  obtain ⟨n, rfl⟩ : ∃ n : Nat, v = n := ⟨v.toNat, by omega⟩
  have hg : 0 < Nat.gcd m n := Nat.gcd_pos_of_pos_right _ (by omega)
  have e1 : (redA ((m : Int), (n : Int))).1 = ((m / Nat.gcd m n : Nat) : Int) := rfl
  have e2 : (redA ((m : Int), (n : Int))).2 = ((n / Nat.gcd m n : Nat) : Int) := rfl
  rw [e1, e2]
  obtain ⟨a, ha⟩ := Nat.gcd_dvd_left m n
  obtain ⟨b, hb⟩ := Nat.gcd_dvd_right m n
  have d1 : m / Nat.gcd m n = a := by
    conv => lhs; lhs; rw [ha]
    exact Nat.mul_div_cancel_left _ hg
  have d2 : n / Nat.gcd m n = b := by
    conv => lhs; lhs; rw [hb]
    exact Nat.mul_div_cancel_left _ hg
  have hcop : Nat.gcd (m / Nat.gcd m n) (n / Nat.gcd m n) = 1 := by rw [Nat.gcd_div (Nat.gcd_dvd_left m n) (Nat.gcd_dvd_right m n)]; exact Nat.div_self hg
  rw [d1, d2] at hcop
  rw [d1, d2]
  have hb1 : 1 ≤ b := by
    cases b with
    | zero => rw [Nat.mul_zero] at hb; omega
    | succ b => omega
  have hb2 : b ≤ n := by rw [hb]; exact Nat.le_mul_of_pos_left b hg
  refine ⟨⟨⟨by omega, by omega⟩, by omega, by rw [Int.toNat_natCast, Int.toNat_natCast]; exact hcop⟩, ?_⟩
  show (a : Int) * (SC / (b : Int)) = (m : Int) * (SC / (n : Int))
  have k1 : (SC / (n : Int)) * (n : Int) = SC := div_exact (by omega) (by omega)
  have k2 : (SC / (b : Int)) * (b : Int) = SC := div_exact (by omega) (by omega)
  generalize SC / (n : Int) = z1 at *
  generalize SC / (b : Int) = z2 at *
  generalize Nat.gcd m n = g at *
  subst ha hb
  have k3 : (z2 - z1 * (g : Int)) * (b : Int) = 0 := by
    rw [Int.sub_mul, k2, ← k1]
    push_cast
    rw [Int.mul_assoc, Int.sub_self]
  have k4 : z2 - z1 * (g : Int) = 0 := by
    rcases Int.mul_eq_zero.mp k3 with z | z
    · exact z
    · omega
  have k5 : z2 = z1 * (g : Int) := by omega
  rw [k5]
  push_cast
  rw [Int.mul_comm z1, ← Int.mul_assoc, Int.mul_comm (a : Int)]
theorem col0 (rs : List Pl) : sd (.list ((rs.filter fun _ => true).map fun (r : Pl) => PyData.int r.1)) = dIL (heldL rs) := by
  rw [filt_true]
  show _ = sd (.list ((rs.map _).map _))
  rw [List.map_map]
  rfl
theorem col1 (rs : List Pl) : sd (.list ((rs.filter fun _ => true).map fun (r : Pl) => PyData.int r.2.1)) = dIL (wtsL rs) := by
  rw [filt_true]
  show _ = sd (.list ((rs.map _).map _))
  rw [List.map_map]
  rfl
theorem col2 (rs : List Pl) : sd (.list ((rs.filter fun _ => true).map fun (r : Pl) => PyData.int r.2.2)) = dIL (capsL rs) := by
  rw [filt_true]
  show _ = sd (.list ((rs.map _).map _))
  rw [List.map_map]
  rfl
theorem tup_II {K : PySem.W.Frag} {α : Type} {g h : α → Int} : ∀ (y : α) S v, (sd (.tuple [.int (g y), .int (h y)])).r K S v → (stup [dI (g y), dI (h y)]).r K S v := fun y S v r => tup_sl r
abbrev sp_height_right (K : PySem.W.Frag) : Sp := sp2 K (fun (rs : List Pl) (got : List Int) => plOk rs ∧ got.length = rs.length ∧ ∀ k, 0 ≤ ato got k) (fun (rs : List Pl) => sd (.list (rs.map plD))) dIL (fun _ _ => dB true)
theorem sc_height_right : FnScope ["_law_rows", "_law_got_here", "_law_given", "_law_row", "_law_found", "_law_one", "_law_top", "_law_bottom"] ["_law_rows", "_law_got_here"] (defScope (top 17)) := ⟨rfl, rfl, rfl, by decide +kernel, rfl, by decide +kernel, by decide +kernel⟩
theorem plain_3 (a b c : List Int) : (PyData.list [.list (a.map .int), .list (b.map .int), .list (c.map .int)]).plain = true := by
  have h : ∀ l : List Int, (PyData.list (l.map .int)).plain = true := fun l => by rw [PyData.plain]; exact plA_map (fun _ => rfl) _
  rw [PyData.plain, PyData.plainAll, PyData.plainAll, PyData.plainAll, PyData.plainAll, h, h, h]
  rfl
include T in
theorem ok_height_right (d_height : Def P w K mg base "height" ["held", "weights", "got"] 2 (sp_height K)) (d_key : Def P w K mg base "_law_key" ["_law_number", "_law_weight"] 1 (sp_key K)) (d_due : Def P w K mg base "_law_due" ["_law_rows", "_law_got_here"] 2 (sp_due K)) (d_least : Def P w K mg base "_law_least" ["_law_top", "_law_bottom"] 1 (sp_least K)) {f : Addr} {fd : FuncData} (F : Fun K "_law_height_right" "_law_height_right" (top 17) f fd) : FnOk P w K mg base CX0 3 f fd ["_law_rows", "_law_got_here"] (sp_height_right K) := by
  refine fn2 F sc_height_right rfl fun rs got hp cdv A outer s H S0 A0 E Q hr F' hq => ?_
  have c_height := d_height.cal hr
  have c_key := d_key.cal hr
  have c_due := d_due.cal hr
  have c_least := d_least.cal hr
  obtain ⟨hok, hgl, hg0⟩ := hp
  have hln : rs.length ≤ 30 := hok.1
  obtain ⟨l1, l2, l3⟩ := pl_len (rs := rs)
  refine blk_asgN F' 2 (el_lst (ds := [.list ((heldL rs).map .int), .list ((wtsL rs).map .int), .list (got.map .int)]) (ar_cons (ev_eq (s2 := dIL (heldL rs)) (frz (lc_el (lc_j (own := [("_law_row", 3)]) F' (it_as rs (fun r => sd (plD r)) (it_ls F' (ev_var 0) (by walk_at "ls")) (sl_pl _)) (fun _ => blkOk_at ["_law_rows", "_law_got_here", "_law_given", "_law_row", "_law_found", "_law_one", "_law_top", "_law_bottom"] (defScope (top 17)) rfl rfl (by decide +kernel)) (fun F' => (tg_name F' 3)) (by decide) (by walk_at "hC") (fun F' D acc x hx => ts_nil) (fun F' D acc x hx hk => (ev_ix (ev_var 3) ev_int (ix_tplI F' tv_d atI0))) (fun x hx hk => by walk_at "ad1") (by omega)))) (col0 _)) (ar_cons (ev_eq (s2 := dIL (wtsL rs)) (frz (lc_el (lc_j (own := [("_law_row", 3)]) F' (it_as rs (fun r => sd (plD r)) (it_ls F' (ev_var 0) (by walk_at "ls")) (sl_pl _)) (fun _ => blkOk_at ["_law_rows", "_law_got_here", "_law_given", "_law_row", "_law_found", "_law_one", "_law_top", "_law_bottom"] (defScope (top 17)) rfl rfl (by decide +kernel)) (fun F' => (tg_name F' 3)) (by decide) (by walk_at "hC") (fun F' D acc x hx => ts_nil) (fun F' D acc x hx hk => (ev_ix (ev_var 3) ev_int (ix_tplI F' tv_d atI1))) (fun x hx hk => by walk_at "ad1") (by omega)))) (col1 _)) (ar_cons (frz (ev_callTN F' T.list boot_list (ar_cons (ev_var 1) ar_nil) (by walk_at "cl"))) ar_nil))) (by exact .cons ad_d (.cons ad_d (.cons ad_d .nil)))) fun p_given => ?_
  refine blk_frz 2 0 ?_
  have hht : htOk (heldL rs) (wtsL rs) got := ⟨⟨⟨by omega, by omega⟩, by omega⟩, fun k hk => pl_w hok k (by omega), pl_h0 hok⟩
  refine blk_asg F' 4 (ev_call3 (x1 := heldL rs) (x2 := wtsL rs) (x3 := got) F' c_height (ar_cons (ev_ix (ev_var 2) ev_int (ix_lstL F' lv_d atI0)) (ar_cons (ev_ix (ev_var 2) ev_int (ix_lstL F' lv_d atI1)) (ar_cons (ev_ix (ev_var 2) ev_int (ix_lstL F' lv_d (atI_nat (j := 2) rfl))) ar_nil))) (by exact hht)) ?_
  obtain ⟨i1, i2, i3⟩ := heavF_ok (g := ato got) (pl_h0 hok) (n := (heldL rs).length) fun k hk => pl_w hok k (by omega)
  obtain ⟨⟨⟨r1, r2⟩, r3, r4⟩, r5⟩ := redA_ok ⟨i2, i3⟩
  have hzero : got.sum = 0 → htA (heldL rs) (wtsL rs) got = (0, 1) := fun hz => by
    unfold htA
    rw [heavF_none]
    · decide
    · refine all_zero (fun k hk => hg0 k) ?_
      have := map_sumF (fun z : Int => z) 0 got
      rw [List.map_id'] at this
      rw [l1, ← hgl]
      show sumF (fun k => got.getD k 0) got.length = 0
      rw [← this, hz]
  have hkey : (htA (heldL rs) (wtsL rs) got).1 * (SC / (htA (heldL rs) (wtsL rs) got).2) = duL rs got := by
    unfold htA duL
    rw [r5, i1, l1]
  have q1 : 1 ≤ (htA (heldL rs) (wtsL rs) got).2 := r1
  have q2 : (htA (heldL rs) (wtsL rs) got).2 ≤ 20 := r2
  have q3 : 0 ≤ (htA (heldL rs) (wtsL rs) got).1 := r3
  have q4 : Nat.gcd (htA (heldL rs) (wtsL rs) got).1.toNat (htA (heldL rs) (wtsL rs) got).2.toNat = 1 := r4
  generalize htA (heldL rs) (wtsL rs) got = ab at *
  obtain ⟨a, b⟩ := ab
  have q1 : 1 ≤ b := q1
  have q2 : b ≤ 20 := q2
  have q3 : 0 ≤ a := q3
  refine blk_ifRet (te_cmp (ev_var 2) (frz (el_lst (ds := [.list ((heldL rs).map .int), .list ((wtsL rs).map .int), .list (got.map .int)]) (ar_cons (ev_eq (s2 := dIL (heldL rs)) (frz (lc_el (lc_j (own := [("_law_row", 3)]) F' (it_as rs (fun r => sd (plD r)) (it_ls F' (ev_var 0) (by walk_at "ls")) (sl_pl _)) (fun _ => blkOk_at ["_law_rows", "_law_got_here", "_law_given", "_law_row", "_law_found", "_law_one", "_law_top", "_law_bottom"] (defScope (top 17)) rfl rfl (by decide +kernel)) (fun F' => (tg_name F' 3)) (by decide) (by walk_at "hC") (fun F' D acc x hx => ts_nil) (fun F' D acc x hx hk => (ev_ix (ev_var 3) ev_int (ix_tplI F' tv_d atI0))) (fun x hx hk => by walk_at "ad1") (by omega)))) (col0 _)) (ar_cons (ev_eq (s2 := dIL (wtsL rs)) (frz (lc_el (lc_j (own := [("_law_row", 3)]) F' (it_as rs (fun r => sd (plD r)) (it_ls F' (ev_var 0) (by walk_at "ls")) (sl_pl _)) (fun _ => blkOk_at ["_law_rows", "_law_got_here", "_law_given", "_law_row", "_law_found", "_law_one", "_law_top", "_law_bottom"] (defScope (top 17)) rfl rfl (by decide +kernel)) (fun F' => (tg_name F' 3)) (by decide) (by walk_at "hC") (fun F' D acc x hx => ts_nil) (fun F' D acc x hx hk => (ev_ix (ev_var 3) ev_int (ix_tplI F' tv_d atI1))) (fun x hx hk => by walk_at "ad1") (by omega)))) (col1 _)) (ar_cons (frz (ev_callTN F' T.list boot_list (ar_cons (ev_var 1) ar_nil) (by walk_at "cl"))) ar_nil))) (by exact .cons ad_d (.cons ad_d (.cons ad_d .nil))))) (br_neP F' hr dv_d dv_d (.inl (by exact dep_list (depA_cons (dep_list (depA_map fun _ => dep_int)) (depA_cons (dep_list (depA_map fun _ => dep_int)) (depA_cons (dep_list (depA_map fun _ => dep_int)) depA_nil))))))) (fun hc => ?_) (fun hc => ?_)
  · exfalso
    rw [eqv_plain _ (plain_3 _ _ _)] at hc
    simp at hc
  refine blk_ifRet (te_bop (tw_or (te_not (te_val (ev_isi F' T.isinstance T.tuple boot_tuple (ev_var 4) ty_tup kit_tuple_tuple))) fun hb => (tw_or (te_cmp (ev_callB F' T.len boot_len (ar_cons (ev_var 4) ar_nil) (by walk_at "cl")) ev_int (by walk_at "cmp")) fun hb => (tw_or1 (te_cmp ev_bool (frz (lc_el (lc_j (own := [("_law_one", 5)]) F' (it_as [a, b] (fun z => dI z) (it_tupD F' (ev_var 4)) rfl) (fun _ => blkOk_at ["_law_rows", "_law_got_here", "_law_given", "_law_row", "_law_found", "_law_one", "_law_top", "_law_bottom"] (defScope (top 17)) rfl rfl (by decide +kernel)) (fun F' => (tg_name F' 5)) (by decide) (by walk_at "hC") (fun F' D acc x hx => ts_nil) (fun F' D acc x hx hk => (ev_isi F' T.isinstance T.bool boot_bool (ev_var 5) ty_int kit_int_bool)) (fun x hx hk => by walk_at "ad1") (by exact Nat.le_of_ble_eq_true rfl)))) (br_inB F' lv_d (by rw [filt_true]; rfl))))))) (fun hc => ?_) (fun hc => ?_)
  · exfalso
    simp [dbool] at hc
  refine blk_unpack F' (ev_var 4) (tg_is (tg_tup F' (tgs_cons (tg_name F' 6) (tgs_cons (tg_name F' 7) tgs_nil))) (tup_II (α := Unit) (g := fun _ => a) (h := fun _ => b))) ?_
  refine blk_ifRet (te_cmp (ev_callB F' T.sum boot_sum (ar_cons (ev_var 1) ar_nil) (cl_sum F' lv_d (by rw [List.all_map]; exact List.all_eq_true.mpr fun _ _ => rfl))) ev_int (by walk_at "cmp")) (fun hc => ?_) (fun hc => ?_)
  · have hc := of_decide_eq_true hc
    rw [dint_ints] at hc
    have hz := hzero hc
    cases hz
    exact blk_ret (ev_cmp (ev_var 4) (ev_tup (ar_cons ev_int (ar_cons ev_int ar_nil))) (by walk_at "cmp")) (retE hq (by rw [eqv_plain _ (by rfl)]))
  refine blk_ifRet (te_bop (tw_or (te_cmp (ev_var 7) ev_int (by walk_at "cmp")) fun hb => (tw_or (te_cmp (ev_var 7) ev_int (by walk_at "cmp")) fun hb => (tw_or (te_cmp (ev_bin ev_int (ev_var 7) (br_mod (by omega))) ev_int (by walk_at "cmp")) fun hb => (tw_or1 (te_not (te_val (ev_call2 (x1 := a) (x2 := b) F' c_least (ar_cons (ev_var 6) (ar_cons (ev_var 7) ar_nil)) (by exact ⟨⟨q1, q2⟩, q3, q4⟩))))))))) (fun hc => ?_) (fun hc => ?_)
  · exfalso
    have := sc_mod q1 q2
    have this : (232792560 : Int) % b = 0 := this
    rw [this] at hc
    simp at hc
    omega
  refine blk_ret (ev_cmp (ev_call2 F' c_key (ar_cons (ev_var 6) (ar_cons (ev_var 7) ar_nil)) (by exact ⟨q1, q2⟩)) (ev_call2 F' c_due (ar_cons (ev_var 0) (ar_cons (ev_var 1) ar_nil)) (by exact ⟨hok, hgl⟩)) (by walk_at "cmp")) (retE hq (congrArg (fun z => dB z) (decide_eq_true ?_)))
  exact hkey
/-! _law_ways -/
def wayOk (rs : List Pl) (many : Int) (n : Nat) (w : List Int) : Prop := (w.length = n ∧ 0 ≤ w.sum ∧ w.sum ≤ many) ∧ ∀ k, k < n → 0 ≤ ato w k ∧ ato w k ≤ max 0 (ato (capsL rs) k - ato (heldL rs) k)
abbrev wyD (w : List Int) : PyData := .list (w.map .int)
theorem way_app {rs : List Pl} {many : Int} {n : Nat} {w : List Int} {x : Int} (h : wayOk rs many n w) (h0 : 0 ≤ x) (h1 : x ≤ many - w.sum) (h2 : x ≤ max 0 (ato (capsL rs) n - ato (heldL rs) n)) : wayOk rs many (n + 1) (w ++ [x]) := by
  obtain ⟨⟨a1, a2, a3⟩, a4⟩ := h
  have es : (w ++ [x]).sum = w.sum + x := by rw [List.sum_append]; simp
  refine ⟨⟨by rw [List.length_append, a1]; rfl, by omega, by omega⟩, fun k hk => ?_⟩
  by_cases e : k = n
  · subst e
    have : ato (w ++ [x]) k = x := by unfold ato; simp [List.getD_eq_getElem?_getD, ← a1]
    rw [this]
    exact ⟨h0, h2⟩
  · have : ato (w ++ [x]) k = ato w k := by unfold ato; simp only [List.getD_eq_getElem?_getD]; rw [List.getElem?_append_left (by omega)]
    rw [this]
    exact a4 k (by omega)
theorem sl_ways (ws : List (List Int)) : (ws.map wyD).map sl = ws.map fun w => sd (wyD w) := by rw [List.map_map]; rfl
abbrev sp_ways (K : PySem.W.Frag) : Sp := spM2 K (fun (rs : List Pl) (m : Int) => (plOk rs ∧ rs.length ≤ 3) ∧ 0 ≤ m ∧ m ≤ 4) (fun (rs : List Pl) => sd (.list (rs.map plD))) dI (fun (rs : List Pl) (m : Int) (ws : List (List Int)) => ws.length ≤ 1000 ∧ ∀ w ∈ ws, wayOk rs m rs.length w ∧ w.sum = m) (fun ws => ws.map wyD)
theorem sc_ways : FnScope ["_law_rows", "_law_many", "_law_ways_here", "_law_held", "_law_weight", "_law_cap", "_law_more", "_law_way", "_law_got_here"] ["_law_rows", "_law_many"] (defScope (top 20)) := ⟨rfl, rfl, rfl, by decide +kernel, rfl, by decide +kernel, by decide +kernel⟩
include T in
theorem ok_ways {f : Addr} {fd : FuncData} (F : Fun K "_law_ways" "_law_ways" (top 20) f fd) : FnOk P w K mg base CX0 1 f fd ["_law_rows", "_law_many"] (sp_ways K) := by
  refine fnM2 F sc_ways rfl fun rs many hp cdv A outer s H S0 A0 E Q hr F' hq => ?_
  obtain ⟨⟨hok, hl3⟩, hm0, hm1⟩ := hp
  have hl3 : rs.length ≤ 3 := hl3
  have hpow : ∀ n, n ≤ 3 → 5 ^ n ≤ 125 := fun n hn => Nat.le_trans (Nat.pow_le_pow_right (by decide) hn) (by decide)
  refine blk_asgN F' 2 (el_lst (ds := [wyD []]) (ar_cons (frz (el_lst ar_nil (by walk_at "ad"))) ar_nil) (by exact .cons ad_d .nil)) fun p_ways => ?_
  refine blk_frz 2 0 ?_
  refine blk_forX (γ := List (List Int)) (I := fun pre g => g.length ≤ 5 ^ pre.length ∧ ∀ w ∈ g, wayOk rs many pre.length w) (G := fun pre g => [some (sd (.list (rs.map plD))), some (dI many), some (sd (.list (g.map wyD))), none, none, none, none, none, none]) (RR := fun pre g => [rE]) F' (fun _ => PassesOwn.never) (it_as rs (fun r => sd (plD r)) (it_ls F' (ev_var 0) (by walk_at "ls")) (sl_pl _)) (tg_is (tg_tup F' (tgs_cons (tg_name F' 3) (tgs_cons (tg_name F' 4) (tgs_cons (tg_name F' 5) tgs_nil)))) tup_III) [[]] ⟨Nat.le_refl _, fun w hw => by
    rw [List.mem_singleton.mp hw]
    exact ⟨⟨rfl, Int.le_refl _, hm0⟩, fun k hk => (nomatch hk)⟩⟩ (wkE rfl (by walk_at "wk")) (fun _ _ _ => trivial) (fun pre x post g B' Z hs hI => ?_) (fun g hI => ?_)
  · obtain ⟨g1, g2⟩ := hI
    have hpre : pre.length < rs.length := by
      have := congrArg List.length hs
      simp at this
      omega
    have hxr : rs[pre.length]? = some x := by rw [hs]; simp
    obtain ⟨x1, x2, x3⟩ := pl_get hxr
    have hgl : g.length ≤ 25 := Nat.le_trans g1 (Nat.le_trans (Nat.pow_le_pow_right (by decide) (show pre.length ≤ 2 by omega)) (by decide))
    refine blk_asgN F' 6 (el_lst ar_nil (by walk_at "ad")) fun p_more => ?_
    refine blk_forX (γ := List (List Int)) (I := fun pre2 m => m.length ≤ 5 * pre2.length ∧ ∀ w ∈ m, wayOk rs many (pre.length + 1) w) (G := fun pre2 m => [some (sd (.list (rs.map plD))), some (dI many), some (sd (.list (g.map wyD))), some (dI x.1), some (dI x.2.1), some (dI x.2.2), some (SL.sv (.ref p_more)), none, none]) (RR := fun pre2 m => [rE, rL p_more (m.map wyD)]) F' (fun _ => PassesOwn.never) (it_as g (fun w => sd (wyD w)) (it_ls F' (ev_var 2) (by walk_at "ls")) (sl_ways _)) (tg_name F' 7) [] ⟨Nat.zero_le _, fun w hw => (nomatch hw)⟩ (wkE rfl (by walk_at "wk")) (fun _ _ _ => trivial) (fun pre2 way post2 m B2 Z2 hs2 hI2 => ?_) (fun m hI2 => ?_)
    · obtain ⟨m1, m2⟩ := hI2
      have hpre2 : pre2.length ≤ 25 := by
        have := congrArg List.length hs2
        simp at this
        omega
      have hway : wayOk rs many pre.length way := g2 way (by rw [hs2]; simp)
      obtain ⟨⟨y1, y2, y3⟩, y4⟩ := hway
      obtain ⟨top, htop⟩ : ∃ z, z = min (many - way.sum) (max 0 (x.2.2 - x.1)) + 1 := ⟨_, rfl⟩
      refine blk_forX (γ := List (List Int)) (I := fun pre3 m3 => m3.length = m.length + pre3.length ∧ ∀ w ∈ m3, wayOk rs many (pre.length + 1) w) (G := fun pre3 m3 => [some (sd (.list (rs.map plD))), some (dI many), some (sd (.list (g.map wyD))), some (dI x.1), some (dI x.2.1), some (dI x.2.2), some (SL.sv (.ref p_more)), some (sd (wyD way)), none]) (RR := fun pre3 m3 => [rE, rL p_more (m3.map wyD)]) F' (fun _ => PassesOwn.never) (it_range1 (j := top) F' T.range (ev_eq (ev_bin (ev_callB F' T.min boot_min (ar_cons (ev_bin (ev_var 1) (ev_callB F' T.sum boot_sum (ar_cons (ev_var 7) ar_nil) (cl_sum F' lv_d (by rw [List.all_map]; exact List.all_eq_true.mpr fun _ _ => rfl))) (by walk_at "bin")) (ar_cons (ev_callB F' T.max boot_max (ar_cons ev_int (ar_cons (ev_bin (ev_var 5) (ev_var 3) (by walk_at "bin")) ar_nil)) (by walk_at "cl")) ar_nil)) (by walk_at "cl")) ev_int (by walk_at "bin")) (by rw [dint_ints, htop])) (by omega)) (tg_name F' 8) m ⟨rfl, m2⟩ (wkE rfl (by walk_at "wk")) (fun _ _ _ => trivial) (fun pre3 z post3 m3 B3 Z3 hs3 hI3 => ?_) (fun m3 hI3 => ?_)
      · obtain ⟨n1, n2⟩ := hI3
        have hz := rng_lt hs3
        have hpre3 : pre3.length ≤ 5 := by
          have := rng_at hs3
          omega
        refine blk_expr (ev_append (d := wyD (way ++ [(z : Int)])) F' 1 (ev_var 6) (frz (ev_binN (ev_var 7) (frz (el_lst (ar_cons (ev_var 8) ar_nil) (by walk_at "ad"))) (bn_cat lv_d lv_d (by rw [List.length_map]; simp; omega)))) (by
          show ∀ K S v, (sd (.list (way.map .int ++ [.int (z : Int)]))).r K S v → Da K S v (.list ((way ++ [(z : Int)]).map .int))
          rw [List.map_append]
          exact ad_d) rfl (by rw [List.length_map]; omega)) ?_
        refine blk_endX rfl (m3 ++ [way ++ [(z : Int)]]) (wkE (by rw [List.map_append]; rfl) (by walk_at "wk")) ⟨by rw [List.length_append, List.length_append, n1]; simp; omega, fun w hw => ?_⟩
        rcases List.mem_append.mp hw with h | h
        · exact n2 w h
        · rw [List.mem_singleton.mp h]
          refine way_app (g2 way (by rw [hs2]; simp)) (by omega) (by omega) ?_
          show (z : Int) ≤ max 0 ((capsL rs).getD pre.length 0 - (heldL rs).getD pre.length 0)
          rw [x3, x1]
          omega
      · obtain ⟨n1, n2⟩ := hI3
        rw [List.length_range] at n1
        refine blk_endX rfl m3 (wkE rfl (by walk_at "wk")) ⟨by rw [List.length_append]; simp; omega, n2⟩
    · obtain ⟨m1, m2⟩ := hI2
      refine blk_frz 6 1 ?_
      refine blk_asg F' 2 (ev_var 6) ?_
      refine blk_sub [rE] (List.sublist_append_left [rE] [rE]) ?_
      refine blk_endX rfl m (wkE rfl (by walk_at "wk")) ⟨?_, ?_⟩
      · rw [List.length_append, List.length_singleton, Nat.pow_succ]
        omega
      · rw [List.length_append, List.length_singleton]
        exact m2
  · obtain ⟨g1, g2⟩ := hI
    have hgl : g.length ≤ 125 := Nat.le_trans g1 (hpow _ hl3)
    refine blk_retN (lc_el (lc_j (own := [("_law_way", 7)]) (k := fun (w : List Int) => decide (w.sum = many)) F' (it_as g (fun w => sd (wyD w)) (it_ls F' (ev_var 2) (by walk_at "ls")) (sl_ways _)) (fun _ => blkOk_at ["_law_rows", "_law_many", "_law_ways_here", "_law_held", "_law_weight", "_law_cap", "_law_more", "_law_way", "_law_got_here"] (defScope (top 20)) rfl rfl (by decide +kernel)) (fun F' => (tg_name F' 7)) (by decide) (by walk_at "hC") (fun F' D acc x hx => (ts_one (te_cmp (ev_eq (s2 := dI x.sum) (ev_callB F' T.sum boot_sum (ar_cons (ev_var 7) ar_nil) (cl_sum F' lv_d (by rw [List.all_map]; exact List.all_eq_true.mpr fun _ _ => rfl))) (by rw [dint_ints])) (ev_var 1) (by walk_at "cmp")))) (fun F' D acc x hx hk => (ev_var 7)) (fun x hx hk => by walk_at "ad1") (by omega))) (retML hq (g.filter fun w => decide (w.sum = many)) ⟨Nat.le_trans (List.length_filter_le _ _) (by omega), fun w hw => ?_⟩ rfl)
    obtain ⟨h1, h2⟩ := List.mem_filter.mp hw
    exact ⟨g2 w h1, of_decide_eq_true h2⟩
/-! what dealing comes to -/
def dlL (rs : List Pl) (m : Nat) : List Nat := dealD (wtsL rs) (capsL rs) m (heldL rs)
theorem got_ato {n : Nat} {ps : List Nat} (h : ∀ p ∈ ps, p < n) (k : Nat) : ato (gotL n ps) k = (ps.count k : Nat) := by
  unfold ato gotL
  by_cases hk : k < n
  · simp [List.getD_eq_getElem?_getD, List.getElem?_map, List.getElem?_range hk]
  · have : ps.count k = 0 := List.count_eq_zero.mpr fun z => hk (h k z)
    rw [this, List.getD_eq_getElem?_getD, List.getElem?_eq_none (by simp; omega)]
    rfl
theorem got_len {n : Nat} {ps : List Nat} : (gotL n ps).length = n := by unfold gotL; simp
theorem got_sum {n : Nat} {ps : List Nat} (h : ∀ p ∈ ps, p < n) : (gotL n ps).sum = ps.length := by
  have := map_sumF (fun z : Int => z) 0 (gotL n ps)
  rw [List.map_id', got_len] at this
  rw [this, ← sum_count ps n h]
  exact sumF_congr fun k _ => got_ato h k
theorem dl_full {rs : List Pl} (m : Nat) (h : (m : Int) ≤ roomD (heldL rs) (capsL rs)) : (dlL rs m).length = m ∧ ∀ p ∈ dlL rs m, p < rs.length := by
  obtain ⟨l1, l2, l3⟩ := pl_len (rs := rs)
  have := deal_full (ws := wtsL rs) (caps := capsL rs) m (heldL rs) (by omega) h
  rw [l1] at this
  exact this
theorem dl_below {rs : List Pl} (hok : plOk rs) {m : Nat} (hm : 0 < m) (h : (m : Int) ≤ roomD (heldL rs) (capsL rs)) : blL rs (duL rs (gotL rs.length (dlL rs m))) ≤ m - 1 := by
  obtain ⟨l1, l2, l3⟩ := pl_len (rs := rs)
  obtain ⟨f1, f2⟩ := dl_full m h
  have hat := got_ato f2
  have hj : ∀ j, j < rs.length → 0 < ato (gotL rs.length (dlL rs m)) j → blL rs ((ato (heldL rs) j + ato (gotL rs.length (dlL rs m)) j) * (SC / ato (wtsL rs) j)) ≤ m - 1 := fun j hj hc => by
    rw [hat] at hc ⊢
    have := deal_below (ws := wtsL rs) (caps := capsL rs) m (heldL rs) j (fun k hk => pl_w hok k (by omega)) (by
      have h1 : (0 : Int) < ((dlL rs m).count j : Nat) := hc
      have h2 : 0 < (dlL rs m).count j := by omega
      exact h2)
    rw [l1] at this
    exact this
  rcases dueF_at (h := ato (heldL rs)) (w := ato (wtsL rs)) (g := ato (gotL rs.length (dlL rs m))) rs.length with z | ⟨j, a, b, c⟩
  · -- somebody got one
    have : ∃ k, k < rs.length ∧ 0 < ato (gotL rs.length (dlL rs m)) k := by
      have hne : dlL rs m ≠ [] := fun e => by rw [e] at f1; simp at f1; omega
      obtain ⟨p, hp⟩ := List.exists_mem_of_ne_nil _ hne
      refine ⟨p, f2 p hp, ?_⟩
      rw [hat]
      have := List.count_pos_iff.mpr hp
      omega
    obtain ⟨k, hk, hg⟩ := this
    have h1 := dueF_ge (h := ato (heldL rs)) (w := ato (wtsL rs)) hk hg
    rw [z] at h1
    have h2 := pl_h0 hok k
    obtain ⟨h3, _⟩ := sc_pos (pl_w hok k hk)
    have h4 : 0 < (ato (heldL rs) k + ato (gotL rs.length (dlL rs m)) k) * (SC / ato (wtsL rs) k) := Int.mul_pos (by omega) h3
    omega
  · have := hj j a b
    rw [← c] at this
    exact this
/-- no way within the caps has a lighter height -/
theorem no_lighter {rs : List Pl} (hok : plOk rs) {m : Nat} (h : (m : Int) ≤ roomD (heldL rs) (capsL rs)) {way : List Int} (hw : wayOk rs m rs.length way) (hs : way.sum = m) : ¬ duL rs way < duL rs (gotL rs.length (dlL rs m)) := by
  intro hlt
  obtain ⟨⟨w1, w2, w3⟩, w4⟩ := hw
  have hnn : 0 ≤ duL rs way := dueF_nn _
  by_cases hm : 0 < m
  · have h1 := dl_below hok hm h
    generalize duL rs (gotL rs.length (dlL rs m)) = Kk at *
    have h2 : sumF (ato way) rs.length ≤ blL rs Kk := sumF_le fun k hk => by
      obtain ⟨v1, v2⟩ := w4 k hk
      by_cases hz : 0 < ato way k
      · have h3 : (ato (heldL rs) k + ato way k) * (SC / ato (wtsL rs) k) ≤ duL rs way := dueF_ge hk hz
        obtain ⟨h4, _⟩ := sc_pos (pl_w hok k hk)
        have h5 : ato (heldL rs) k + ato way k ≤ (Kk - 1) / (SC / ato (wtsL rs) k) := (Int.le_ediv_iff_mul_le h4).mpr (by omega)
        show ato way k ≤ max 0 (min (ato (capsL rs) k) ((Kk - 1) / (SC / ato (wtsL rs) k)) - ato (heldL rs) k)
        omega
      · show ato way k ≤ max 0 _
        omega
    have h6 := map_sumF (fun z : Int => z) 0 way
    rw [List.map_id', w1, hs] at h6
    have h7 : (m : Int) = sumF (ato way) rs.length := h6
    omega
  · have e : m = 0 := by omega
    subst e
    have h8 : duL rs (gotL rs.length (dlL rs 0)) = 0 := by
      rcases dueF_at (h := ato (heldL rs)) (w := ato (wtsL rs)) (g := ato (gotL rs.length (dlL rs 0))) rs.length with z | ⟨j, a, b, c⟩
      · exact z
      · rw [got_ato (dl_full 0 h).2] at b
        simp [dlL, dealD] at b
    omega
/-! _law_dealt_right -/
abbrev sp_dealt_right (K : PySem.W.Frag) : Sp := sp2 K (fun (rs : List Pl) (m : Int) => plOk rs ∧ (0 ≤ m ∧ m ≤ 1000) ∧ m ≤ roomD (heldL rs) (capsL rs)) (fun (rs : List Pl) => sd (.list (rs.map plD))) dI (fun _ _ => dB true)
theorem sc_dealt_right : FnScope ["_law_rows", "_law_many", "_law_places_here", "_law_row", "_law_got_here"] ["_law_rows", "_law_many"] (defScope (top 21)) := ⟨rfl, rfl, rfl, by decide +kernel, rfl, by decide +kernel, by decide +kernel⟩
include T in
theorem ok_dealt_right (d_dealt : Def P w K mg base "dealt" ["held", "weights", "caps", "many"] 3 (sp_dealt K)) (d_got : Def P w K mg base "_law_got" ["_law_rows", "_law_places_here"] 1 (sp_got K)) (d_height_right : Def P w K mg base "_law_height_right" ["_law_rows", "_law_got_here"] 3 (sp_height_right K)) (d_below : Def P w K mg base "_law_below" ["_law_rows", "_law_key_here"] 1 (sp_below K)) (d_due : Def P w K mg base "_law_due" ["_law_rows", "_law_got_here"] 2 (sp_due K)) {f : Addr} {fd : FuncData} (F : Fun K "_law_dealt_right" "_law_dealt_right" (top 21) f fd) : FnOk P w K mg base CX0 4 f fd ["_law_rows", "_law_many"] (sp_dealt_right K) := by
  refine fn2 F sc_dealt_right rfl fun rs many hp cdv A outer s H S0 A0 E Q hr F' hq => ?_
  have c_dealt := d_dealt.cal hr
  have c_got := d_got.cal hr
  have c_height_right := d_height_right.cal hr
  have c_below := d_below.cal hr
  have c_due := d_due.cal hr
  obtain ⟨hok, ⟨hm0, hm1⟩, hmr⟩ := hp
  have hln : rs.length ≤ 30 := hok.1
  obtain ⟨m, rfl⟩ : ∃ m : Nat, many = m := ⟨many.toNat, by omega⟩
  obtain ⟨f1, f2⟩ := dl_full m hmr
  have hat := got_ato f2
  have hgs := got_sum f2
  refine blk_asgE F' 2 (sd (.list ((dlL rs m).map fun (p : Nat) => PyData.int (p : Int)))) (frz (el_call4 (x1 := heldL rs) (x2 := wtsL rs) (x3 := capsL rs) (x4 := (m : Int)) F' c_dealt (ar_cons (ev_eq (s2 := dIL (heldL rs)) (frz (lc_el (lc_j (own := [("_law_row", 3)]) F' (it_as rs (fun r => sd (plD r)) (it_ls F' (ev_var 0) (by walk_at "ls")) (sl_pl _)) (fun _ => blkOk_at ["_law_rows", "_law_many", "_law_places_here", "_law_row", "_law_got_here"] (defScope (top 21)) rfl rfl (by decide +kernel)) (fun F' => (tg_name F' 3)) (by decide) (by walk_at "hC") (fun F' D acc x hx => ts_nil) (fun F' D acc x hx hk => (ev_ix (ev_var 3) ev_int (ix_tplI F' tv_d atI0))) (fun x hx hk => by walk_at "ad1") (by omega)))) (col0 _)) (ar_cons (ev_eq (s2 := dIL (wtsL rs)) (frz (lc_el (lc_j (own := [("_law_row", 3)]) F' (it_as rs (fun r => sd (plD r)) (it_ls F' (ev_var 0) (by walk_at "ls")) (sl_pl _)) (fun _ => blkOk_at ["_law_rows", "_law_many", "_law_places_here", "_law_row", "_law_got_here"] (defScope (top 21)) rfl rfl (by decide +kernel)) (fun F' => (tg_name F' 3)) (by decide) (by walk_at "hC") (fun F' D acc x hx => ts_nil) (fun F' D acc x hx hk => (ev_ix (ev_var 3) ev_int (ix_tplI F' tv_d atI1))) (fun x hx hk => by walk_at "ad1") (by omega)))) (col1 _)) (ar_cons (ev_eq (s2 := dIL (capsL rs)) (frz (lc_el (lc_j (own := [("_law_row", 3)]) F' (it_as rs (fun r => sd (plD r)) (it_ls F' (ev_var 0) (by walk_at "ls")) (sl_pl _)) (fun _ => blkOk_at ["_law_rows", "_law_many", "_law_places_here", "_law_row", "_law_got_here"] (defScope (top 21)) rfl rfl (by decide +kernel)) (fun F' => (tg_name F' 3)) (by decide) (by walk_at "hC") (fun F' D acc x hx => ts_nil) (fun F' D acc x hx hk => (ev_ix (ev_var 3) ev_int (ix_tplI F' tv_d (atI_nat (j := 2) rfl)))) (fun x hx hk => by walk_at "ad1") (by omega)))) (col2 _)) (ar_cons (ev_var 1) ar_nil)))) (by exact ⟨pl_dl hok, ⟨hm0, by omega⟩, hmr⟩))) rfl ?_
  refine blk_asg F' 4 (frz (el_call2 (x1 := rs) (x2 := dlL rs m) F' c_got (ar_cons (ev_var 0) (ar_cons (ev_var 2) ar_nil)) (by exact hok))) ?_
  have hbl : 0 < m → blL rs (duL rs (gotL rs.length (dlL rs m))) ≤ m - 1 := fun h => dl_below hok h hmr
  have hgl : (gotL rs.length (dlL rs m)).length = rs.length := got_len
  have hg0 : ∀ k, 0 ≤ ato (gotL rs.length (dlL rs m)) k := fun k => by rw [hat]; omega
  generalize gotL rs.length (dlL rs m) = got at *
  refine blk_ifRet (te_bop (tw_or (te_cmp (ev_callB F' T.len boot_len (ar_cons (ev_var 2) ar_nil) (by walk_at "cl")) (ev_var 1) (by walk_at "cmp")) fun hb => (tw_or (te_cmp (ev_callB F' T.sum boot_sum (ar_cons (ev_var 4) ar_nil) (cl_sum F' lv_d (by rw [List.all_map]; exact List.all_eq_true.mpr fun _ _ => rfl))) (ev_var 1) (by walk_at "cmp")) fun hb => (tw_or1 (te_not (te_val (ev_call2 (x1 := rs) (x2 := got) F' c_height_right (ar_cons (ev_var 0) (ar_cons (ev_var 4) ar_nil)) (by exact ⟨hok, hgl, hg0⟩)))))))) (fun hc => ?_) (fun hc => ?_)
  · exfalso
    rw [dint_ints, hgs, List.length_map, f1] at hc
    simp at hc
  refine blk_ret (ev_or (ev_cmp (ev_var 1) ev_int (by walk_at "cmp")) fun hb => (ev_one (ev_cmp (ev_call2 F' c_below (ar_cons (ev_var 0) (ar_cons (ev_call2 (x1 := rs) (x2 := got) F' c_due (ar_cons (ev_var 0) (ar_cons (ev_var 4) ar_nil)) (by exact ⟨hok, hgl⟩)) ar_nil)) (by exact hok)) (ev_var 1) (by walk_at "cmp")))) (retE hq (congrArg (fun z => dB z) ?_))
  by_cases hz : 0 < m
  · have := hbl hz
    rw [Bool.or_eq_true]
    exact .inr (decide_eq_true (by omega))
  · rw [Bool.or_eq_true]
    exact .inl (decide_eq_true (by omega))
/-! law -/
abbrev sp_law (K : PySem.W.Frag) : Sp := sp1 K (fun ns => ns.length ≤ 63) sscr (fun _ => dB true)
theorem sc_law : FnScope ["_law_script", "_law_rows", "_law_room", "_law_held", "_law_weight", "_law_cap", "_law_j", "_law_got_here", "_law_k", "_law_few", "_law_many", "_law_places_here", "_law_row", "_law_least_here", "_law_way"] ["_law_script"] (defScope (top 22)) := ⟨rfl, rfl, rfl, by decide +kernel, rfl, by decide +kernel, by decide +kernel⟩
theorem room_eq (rs : List Pl) : (((rs.filter fun _ => true).map fun (r : Pl) => PyData.int (max 0 (r.2.2 - r.1))).map dint).sum = roomD (heldL rs) (capsL rs) := by
  rw [filt_true, List.map_map, room_pl]
  rfl
include T in
theorem ok_law (d_by : Def P w K mg base "_law_by" ["_law_script", "_law_k", "_law_many"] 2 (sp_by K)) (d_places : Def P w K mg base "_law_places" ["_law_script", "_law_k", "_law_most"] 3 (sp_places K)) (d_dealt_right : Def P w K mg base "_law_dealt_right" ["_law_rows", "_law_many"] 4 (sp_dealt_right K)) (d_height_right : Def P w K mg base "_law_height_right" ["_law_rows", "_law_got_here"] 3 (sp_height_right K)) (d_dealt : Def P w K mg base "dealt" ["held", "weights", "caps", "many"] 3 (sp_dealt K)) (d_got : Def P w K mg base "_law_got" ["_law_rows", "_law_places_here"] 1 (sp_got K)) (d_due : Def P w K mg base "_law_due" ["_law_rows", "_law_got_here"] 2 (sp_due K)) (d_ways : Def P w K mg base "_law_ways" ["_law_rows", "_law_many"] 1 (sp_ways K)) {f : Addr} {fd : FuncData} (F : Fun K "law" "law" (top 22) f fd) : FnOk P w K mg base CX0 5 f fd ["_law_script"] (sp_law K) := by
  refine fn1 F sc_law rfl fun script hp cdv A outer s H S0 A0 E Q hr F' hq => ?_
  have hp : script.length ≤ 63 := hp
  have c_by := d_by.cal hr
  have c_places := d_places.cal hr
  have c_dealt_right := d_dealt_right.cal hr
  have c_height_right := d_height_right.cal hr
  have c_dealt := d_dealt.cal hr
  have c_got := d_got.cal hr
  have c_due := d_due.cal hr
  have c_ways := d_ways.cal hr
  refine blk_asgN F' 1 (em_call3 F' c_places (ar_cons (ev_var 0) (ar_cons ev_int (ar_cons ev_int ar_nil))) (by exact ⟨⟨⟨hp, by decide⟩, by decide⟩, by decide, by decide⟩)) fun nn => ?_
  obtain ⟨p_rs, rs, hok, hrl⟩ := nn
  have hok : plOk rs := hok
  have hln : rs.length ≤ 30 := hok.1
  refine blk_frz 1 0 ?_
  obtain ⟨rm, hrm⟩ : ∃ z, z = roomD (heldL rs) (capsL rs) := ⟨_, rfl⟩
  have hrm0 : 0 ≤ rm := by rw [hrm]; exact room_nn _ _
  refine blk_asgE F' 2 (dI rm) (ev_callB F' T.sum boot_sum (ar_cons (frz (lc_el (lc_j (own := [("_law_held", 3), ("_law_weight", 4), ("_law_cap", 5)]) F' (it_as rs (fun r => sd (plD r)) (it_ls F' (ev_var 1) (by walk_at "ls")) (sl_pl _)) (fun _ => blkOk_at ["_law_script", "_law_rows", "_law_room", "_law_held", "_law_weight", "_law_cap", "_law_j", "_law_got_here", "_law_k", "_law_few", "_law_many", "_law_places_here", "_law_row", "_law_least_here", "_law_way"] (defScope (top 22)) rfl rfl (by decide +kernel)) (fun F' => (tg_is (tg_tup F' (tgs_cons (tg_name F' 3) (tgs_cons (tg_name F' 4) (tgs_cons (tg_name F' 5) tgs_nil)))) tup_III)) (by decide) (by walk_at "hC") (fun F' D acc x hx => ts_nil) (fun F' D acc x hx hk => (ev_callB F' T.max boot_max (ar_cons ev_int (ar_cons (ev_bin (ev_var 5) (ev_var 3) (by walk_at "bin")) ar_nil)) (by walk_at "cl"))) (fun x hx hk => by walk_at "ad1") (by omega)))) ar_nil) (cl_sum F' lv_d (by rw [List.all_map]; exact List.all_eq_true.mpr fun _ _ => rfl))) (by rw [room_eq, hrm]) ?_
  have b1 : 0 ≤ byA script 195 61 := by_nn (by decide)
  have b2 : byA script 195 61 < 61 := by_lt (by decide)
  refine blk_ifRet (te_not (te_val (ev_call2 (x1 := rs) (x2 := min rm (byA script 195 61)) F' c_dealt_right (ar_cons (ev_var 1) (ar_cons (ev_callB F' T.min boot_min (ar_cons (ev_var 2) (ar_cons (ev_call3 F' c_by (ar_cons (ev_var 0) (ar_cons ev_int (ar_cons ev_int ar_nil))) (by walk_at "pre")) ar_nil)) (by walk_at "cl")) ar_nil)) (by exact ⟨hok, ⟨by omega, by omega⟩, by omega⟩)))) (fun hc => ?_) (fun hc => ?_)
  · exact nomatch hc
  refine blk_for (G := fun pre => [some (sscr script), some (sd (.list (rs.map plD))), none, none, none, none, none, none, none, none, none, none, none, none, none]) (RR := fun pre => [rE]) F' (fun _ => PassesOwn.never) (it_range1 F' T.range ev_int (by walk_at "ob")) (tg_name F' 6) (wkE rfl (by walk_at "wk")) (fun _ => trivial) (fun pre x post B' Z hs => ?_) ?_
  · have hx : x < 3 := rng_lt hs
    have m1 : ∀ i : Nat, i < 3 → 0 < (List.map dint [.int 2, .int 7, .int 201]).getD i 0 ∧ (List.map dint [.int 2, .int 7, .int 201]).getD i 0 ≤ 201 := fun i hi => menu_all (Q := fun x => 0 < x ∧ x ≤ 201) (by decide) hi
    obtain ⟨mx1, mx2⟩ := m1 x hx
    obtain ⟨got, hgot⟩ : ∃ z : List Int, z = (List.range rs.length).map fun (k : Nat) => byA script (200 + 40 * (x : Int) + (k : Int)) ((List.map dint [.int 2, .int 7, .int 201]).getD x 0) := ⟨_, rfl⟩
    have hgl : got.length = rs.length := by rw [hgot]; simp
    have hg0 : ∀ k, 0 ≤ ato got k := fun k => by
      unfold ato
      by_cases hk : k < rs.length
      · have hv : got.getD k 0 = byA script (200 + 40 * (x : Int) + (k : Int)) ((List.map dint [.int 2, .int 7, .int 201]).getD x 0) := by
          rw [hgot, List.getD_eq_getElem?_getD, List.getElem?_map, List.getElem?_range hk]
          rfl
        rw [hv]
        exact by_nn mx1
      · rw [List.getD_eq_getElem?_getD, List.getElem?_eq_none (by omega)]
        exact Int.le_refl _
    refine blk_asgLc F' 7 (lc_j (own := [("_law_k", 8)]) F' (it_range1 F' T.range (ev_callB F' T.len boot_len (ar_cons (ev_var 1) ar_nil) (by walk_at "cl")) (by rw [List.length_map]; omega)) (fun _ => blkOk_at ["_law_script", "_law_rows", "_law_room", "_law_held", "_law_weight", "_law_cap", "_law_j", "_law_got_here", "_law_k", "_law_few", "_law_many", "_law_places_here", "_law_row", "_law_least_here", "_law_way"] (defScope (top 22)) rfl rfl (by decide +kernel)) (fun F' => (tg_name F' 8)) (by decide) (by walk_at "hC") (fun F' D acc y hy => ts_nil) (fun F' D acc y hy hk => by
      have hy' : y < rs.length := by rw [List.length_map, Int.toNat_natCast, List.mem_range] at hy; exact hy
      exact (ev_call3 F' c_by (ar_cons (ev_var 0) (ar_cons (ev_bin (ev_bin ev_int (ev_bin ev_int (ev_var 6) (by walk_at "bin")) (by walk_at "bin")) (ev_var 8) (by walk_at "bin")) (ar_cons (ev_ix (frz (el_lst (ar_cons ev_int (ar_cons ev_int (ar_cons ev_int ar_nil))) (by walk_at "ad"))) (ev_var 6) (ix_menuI F' lv_d rfl (by omega) (by simp; omega))) ar_nil))) (by exact ⟨⟨hp, by omega⟩, by omega, mx1⟩))) (fun y hy hk => by walk_at "ad1") (by rw [List.length_range, List.length_map]; omega)) fun p_got => ?_
    have eg : ((List.range ((rs.map plD).length : Int).toNat).filter fun _ => true).map (fun (k : Nat) => PyData.int (byA script (200 + 40 * (x : Int) + (k : Int)) ((List.map dint [.int 2, .int 7, .int 201]).getD (x : Int).toNat 0))) = got.map .int := by
      rw [filt_true, List.length_map, Int.toNat_natCast, hgot, List.map_map]
      rfl
    rw [eg]
    refine blk_frz 7 1 ?_
    refine blk_ifRet (te_not (te_val (ev_call2 F' c_height_right (ar_cons (ev_var 1) (ar_cons (ev_var 7) ar_nil)) (by exact ⟨hok, hgl, hg0⟩)))) (fun hc => ?_) (fun hc => ?_)
    · exact nomatch hc
    exact blk_endD (R' := [rE]) rfl (by walk_at "wk") rfl
  refine blk_for (G := fun pre => [some (sscr script), none, none, none, none, none, none, none, none, none, none, none, none, none, none]) (RR := fun pre => [rE]) F' (fun _ => PassesOwn.never) (it_range1 F' T.range ev_int (by walk_at "ob")) (tg_name F' 6) (wkE rfl (by walk_at "wk")) (fun _ => trivial) (fun pre x post B' Z hs => ?_) ?_
  · have hx : x < 4 := rng_lt hs
    clear hok hrl hln hrm hrm0 b1 b2
    refine blk_asgN F' 9 (em_call3 F' c_places (ar_cons (ev_var 0) (ar_cons (ev_bin ev_int (ev_bin ev_int (ev_var 6) (by walk_at "bin")) (by walk_at "bin")) (ar_cons ev_int ar_nil))) (by exact ⟨⟨⟨hp, by omega⟩, by omega⟩, by decide, by decide⟩)) fun nn => ?_
    obtain ⟨p_few, few, hok, hl3⟩ := nn
    have hok : plOk few := hok
    have hl3 : few.length ≤ 3 := by have h : (few.length : Int) ≤ 3 := hl3; omega
    refine blk_frz 9 1 ?_
    obtain ⟨rm, hrm⟩ : ∃ z, z = roomD (heldL few) (capsL few) := ⟨_, rfl⟩
    have hrm0 : 0 ≤ rm := by rw [hrm]; exact room_nn _ _
    refine blk_asgE F' 2 (dI rm) (ev_callB F' T.sum boot_sum (ar_cons (frz (lc_el (lc_j (own := [("_law_held", 3), ("_law_weight", 4), ("_law_cap", 5)]) F' (it_as few (fun r => sd (plD r)) (it_ls F' (ev_var 9) (by walk_at "ls")) (sl_pl _)) (fun _ => blkOk_at ["_law_script", "_law_rows", "_law_room", "_law_held", "_law_weight", "_law_cap", "_law_j", "_law_got_here", "_law_k", "_law_few", "_law_many", "_law_places_here", "_law_row", "_law_least_here", "_law_way"] (defScope (top 22)) rfl rfl (by decide +kernel)) (fun F' => (tg_is (tg_tup F' (tgs_cons (tg_name F' 3) (tgs_cons (tg_name F' 4) (tgs_cons (tg_name F' 5) tgs_nil)))) tup_III)) (by decide) (by walk_at "hC") (fun F' D acc x hx => ts_nil) (fun F' D acc x hx hk => (ev_callB F' T.max boot_max (ar_cons ev_int (ar_cons (ev_bin (ev_var 5) (ev_var 3) (by walk_at "bin")) ar_nil)) (by walk_at "cl"))) (fun x hx hk => by walk_at "ad1") (by omega)))) ar_nil) (cl_sum F' lv_d (by rw [List.all_map]; exact List.all_eq_true.mpr fun _ _ => rfl))) (by rw [room_eq, hrm]) ?_
    have b1 : 0 ≤ byA script (364 + 40 * (x : Int)) 5 := by_nn (by decide)
    have b2 : byA script (364 + 40 * (x : Int)) 5 < 5 := by_lt (by decide)
    obtain ⟨m, hm⟩ : ∃ m : Nat, (m : Int) = min rm (byA script (364 + 40 * (x : Int)) 5) := ⟨(min rm (byA script (364 + 40 * (x : Int)) 5)).toNat, by omega⟩
    refine blk_asgE F' 10 (dI (m : Int)) (ev_callB F' T.min boot_min (ar_cons (ev_var 2) (ar_cons (ev_call3 F' c_by (ar_cons (ev_var 0) (ar_cons (ev_bin ev_int (ev_bin ev_int (ev_var 6) (by walk_at "bin")) (by walk_at "bin")) (ar_cons ev_int ar_nil))) (by exact ⟨⟨hp, by omega⟩, by omega, by decide⟩)) ar_nil)) (by walk_at "cl")) (by rw [hm]) ?_
    have hm0 : 0 ≤ (m : Int) := by omega
    have hmr : (m : Int) ≤ roomD (heldL few) (capsL few) := by omega
    refine blk_ifRet (te_not (te_val (ev_call2 (x1 := few) (x2 := (m : Int)) F' c_dealt_right (ar_cons (ev_var 9) (ar_cons (ev_var 10) ar_nil)) (by exact ⟨hok, ⟨by omega, by omega⟩, hmr⟩)))) (fun hc => ?_) (fun hc => ?_)
    · exact nomatch hc
    refine blk_asgE F' 11 (sd (.list ((dlL few m).map fun (p : Nat) => PyData.int (p : Int)))) (frz (el_call4 (x1 := heldL few) (x2 := wtsL few) (x3 := capsL few) (x4 := (m : Int)) F' c_dealt (ar_cons (ev_eq (s2 := dIL (heldL few)) (frz (lc_el (lc_j (own := [("_law_row", 12)]) F' (it_as few (fun r => sd (plD r)) (it_ls F' (ev_var 9) (by walk_at "ls")) (sl_pl _)) (fun _ => blkOk_at ["_law_script", "_law_rows", "_law_room", "_law_held", "_law_weight", "_law_cap", "_law_j", "_law_got_here", "_law_k", "_law_few", "_law_many", "_law_places_here", "_law_row", "_law_least_here", "_law_way"] (defScope (top 22)) rfl rfl (by decide +kernel)) (fun F' => (tg_name F' 12)) (by decide) (by walk_at "hC") (fun F' D acc x hx => ts_nil) (fun F' D acc x hx hk => (ev_ix (ev_var 12) ev_int (ix_tplI F' tv_d atI0))) (fun x hx hk => by walk_at "ad1") (by omega)))) (col0 _)) (ar_cons (ev_eq (s2 := dIL (wtsL few)) (frz (lc_el (lc_j (own := [("_law_row", 12)]) F' (it_as few (fun r => sd (plD r)) (it_ls F' (ev_var 9) (by walk_at "ls")) (sl_pl _)) (fun _ => blkOk_at ["_law_script", "_law_rows", "_law_room", "_law_held", "_law_weight", "_law_cap", "_law_j", "_law_got_here", "_law_k", "_law_few", "_law_many", "_law_places_here", "_law_row", "_law_least_here", "_law_way"] (defScope (top 22)) rfl rfl (by decide +kernel)) (fun F' => (tg_name F' 12)) (by decide) (by walk_at "hC") (fun F' D acc x hx => ts_nil) (fun F' D acc x hx hk => (ev_ix (ev_var 12) ev_int (ix_tplI F' tv_d atI1))) (fun x hx hk => by walk_at "ad1") (by omega)))) (col1 _)) (ar_cons (ev_eq (s2 := dIL (capsL few)) (frz (lc_el (lc_j (own := [("_law_row", 12)]) F' (it_as few (fun r => sd (plD r)) (it_ls F' (ev_var 9) (by walk_at "ls")) (sl_pl _)) (fun _ => blkOk_at ["_law_script", "_law_rows", "_law_room", "_law_held", "_law_weight", "_law_cap", "_law_j", "_law_got_here", "_law_k", "_law_few", "_law_many", "_law_places_here", "_law_row", "_law_least_here", "_law_way"] (defScope (top 22)) rfl rfl (by decide +kernel)) (fun F' => (tg_name F' 12)) (by decide) (by walk_at "hC") (fun F' D acc x hx => ts_nil) (fun F' D acc x hx hk => (ev_ix (ev_var 12) ev_int (ix_tplI F' tv_d (atI_nat (j := 2) rfl)))) (fun x hx hk => by walk_at "ad1") (by omega)))) (col2 _)) (ar_cons (ev_var 10) ar_nil)))) (by exact ⟨pl_dl hok, ⟨hm0, by omega⟩, hmr⟩))) rfl ?_
    refine blk_asg F' 13 (ev_call2 (x1 := few) (x2 := gotL few.length (dlL few m)) F' c_due (ar_cons (ev_var 9) (ar_cons (frz (el_call2 (x1 := few) (x2 := dlL few m) F' c_got (ar_cons (ev_var 9) (ar_cons (ev_var 11) ar_nil)) (by exact hok))) ar_nil)) (by exact ⟨hok, got_len⟩)) ?_
    have hno : ∀ way, wayOk few m few.length way → way.sum = m → ¬ duL few way < duL few (gotL few.length (dlL few m)) := fun way h1 h2 => no_lighter hok hmr h1 h2
    generalize duL few (gotL few.length (dlL few m)) = least at *
    refine blk_ifRet (te_cmpN (op := .In) (ν := (Addr × {ws : List (List Int) // ws.length ≤ 1000 ∧ ∀ w ∈ ws, wayOk few m few.length w ∧ w.sum = m}) × Addr) (Rn := fun q => [rL q.1.1 (q.1.2.1.map wyD), rL q.2 ((q.1.2.1.filter fun _ => true).map fun way => PyData.bool (decide (duL few way < least)))]) (sn := fun q => SL.sv (.ref q.2)) ev_bool (lc_jN (own := [("_law_way", 14)]) (xs := fun q => q.2.1) (it := fun w => sd (wyD w)) (k := fun _ => true) (d := fun way => PyData.bool (decide (duL few way < least))) (C := fun q R' => R'[2]? = some (rL q.1 (q.2.1.map wyD))) F' (it_lsN F' (em_call2 (x1 := few) (x2 := (m : Int)) F' c_ways (ar_cons (ev_var 9) (ar_cons (ev_var 10) ar_nil)) (by exact ⟨⟨hok, hl3⟩, by omega, by omega⟩)) (fun q => ls_o 2 rfl)) (fun q => sl_ways _) (fun _ => blkOk_at ["_law_script", "_law_rows", "_law_room", "_law_held", "_law_weight", "_law_cap", "_law_j", "_law_got_here", "_law_k", "_law_few", "_law_many", "_law_places_here", "_law_row", "_law_least_here", "_law_way"] (defScope (top 22)) rfl rfl (by decide +kernel)) (fun F' => (tg_name F' 14)) (by decide) (fun q D acc => rfl) (fun F' q D acc x hx => ts_nil) (fun F' q D acc way hw hk => (ev_cmp (ev_call2 (x1 := few) (x2 := way) F' c_due (ar_cons (ev_var 9) (ar_cons (ev_var 14) ar_nil)) (by exact ⟨hok, (q.2.2.2 way hw).1.1.1⟩)) (ev_var 13) (by walk_at "cmp"))) (fun way hk => by walk_at "ad1") (fun q => Nat.le_trans q.2.2.1 (by decide))) (fun q => by
      have hf : decide (true ∈ (List.map (fun way => PyData.bool (decide (duL few way < least))) (q.1.2.1.filter fun _ => true)).map dbool) = false := by
        refine decide_eq_false fun hmem => ?_
        rw [filt_true, List.map_map] at hmem
        obtain ⟨way, hw, e⟩ := List.mem_map.mp hmem
        have h2 := q.1.2.2.2 way hw
        exact hno way h2.1 h2.2 (of_decide_eq_true e)
      have := br_inB (x := true) (X := FX P w K mg base ["_law_script", "_law_rows", "_law_room", "_law_held", "_law_weight", "_law_cap", "_law_j", "_law_got_here", "_law_k", "_law_few", "_law_many", "_law_places_here", "_law_row", "_law_least_here", "_law_way"] "law" (top 22) f cdv A outer s H E) (E := ⟨H, S0, A0⟩) F' (lv_o (R := [rE, rE] ++ [rL q.1.1 (q.1.2.1.map wyD), rL q.2 ((q.1.2.1.filter fun _ => true).map fun way => PyData.bool (decide (duL few way < least)))]) 3 rfl) (by rw [List.all_map]; exact List.all_eq_true.mpr fun _ _ => rfl)
      rw [hf] at this
      exact this)) (fun hc => ?_) (fun hc => ?_)
    · exact nomatch hc
    exact blk_endD (R' := [rE]) rfl (by walk_at "wk") rfl
  exact blk_ret ev_bool (retE hq (by rfl))
end
theorem all_mk {l : PySem.W.OpenLaw} {w : World} {K : PySem.W.Frag} {h : Heap} {mg : Str → Option Value} {fa f1 f2 f3 f4 f5 f6 f7 f8 f9 f10 f11 f12 f13 f14 f15 f16 f17 f18  : Addr} (X : K.In h) (G : h.Ns mainGlobals mg) (hfa : mg "law" = some (.ref fa))
    {od1 an1 od2 an2 od3 an3 od4 an4 od5 an5 od6 an6 od7 an7 od8 an8 od9 an9 od10 an10 od11 an11 od12 an12 od13 an13 od14 an14 od15 an15 od16 an16 od17 an17 od18 an18 : Option Addr} {sl1 sl2 sl3 sl4 sl5 sl6 sl7 sl8 sl9 sl10 sl11 sl12 sl13 sl14 sl15 sl16 sl17 sl18 : Array (Option Value)} {oc1 kV1 dc1 pm1 cd1 ct1 oc2 kV2 dc2 pm2 cd2 ct2 oc3 kV3 dc3 pm3 cd3 ct3 oc4 kV4 dc4 pm4 cd4 ct4 oc5 kV5 dc5 pm5 cd5 ct5 oc6 kV6 dc6 pm6 cd6 ct6 oc7 kV7 dc7 pm7 cd7 ct7 oc8 kV8 dc8 pm8 cd8 ct8 oc9 kV9 dc9 pm9 cd9 ct9 oc10 kV10 dc10 pm10 cd10 ct10 oc11 kV11 dc11 pm11 cd11 ct11 oc12 kV12 dc12 pm12 cd12 ct12 oc13 kV13 dc13 pm13 cd13 ct13 oc14 kV14 dc14 pm14 cd14 ct14 oc15 kV15 dc15 pm15 cd15 ct15 oc16 kV16 dc16 pm16 cd16 ct16 oc17 kV17 dc17 pm17 cd17 ct17 oc18 kV18 dc18 pm18 cd18 ct18 : Value}
    (a1 : PySem.W.nsIn K mainGlobals "_law_cell_at" = some (some (.ref f1))) (l1 : K.lookup f1 = some ⟨oc1, od1, .func (PySem.W.fnOf "_law_cell_at" "_law_cell_at" (defArgs (top 11)) (defBody (top 11)) (defScope (top 11)) .none kV1 dc1 pm1 an1 cd1 ct1), sl1⟩) (c1 : PySem.W.codeIn K cd1 "_law_cell_at" = true) (k1 : PySem.W.keepIn K (.ref f1) = true)
    (a2 : PySem.W.nsIn K mainGlobals "_law_by" = some (some (.ref f2))) (l2 : K.lookup f2 = some ⟨oc2, od2, .func (PySem.W.fnOf "_law_by" "_law_by" (defArgs (top 12)) (defBody (top 12)) (defScope (top 12)) .none kV2 dc2 pm2 an2 cd2 ct2), sl2⟩) (c2 : PySem.W.codeIn K cd2 "_law_by" = true) (k2 : PySem.W.keepIn K (.ref f2) = true)
    (a3 : PySem.W.nsIn K mainGlobals "is_lighter" = some (some (.ref f3))) (l3 : K.lookup f3 = some ⟨oc3, od3, .func (PySem.W.fnOf "is_lighter" "is_lighter" (defArgs (top 4)) (defBody (top 4)) (defScope (top 4)) .none kV3 dc3 pm3 an3 cd3 ct3), sl3⟩) (c3 : PySem.W.codeIn K cd3 "is_lighter" = true) (k3 : PySem.W.keepIn K (.ref f3) = true)
    (a4 : PySem.W.nsIn K mainGlobals "room_in" = some (some (.ref f4))) (l4 : K.lookup f4 = some ⟨oc4, od4, .func (PySem.W.fnOf "room_in" "room_in" (defArgs (top 5)) (defBody (top 5)) (defScope (top 5)) .none kV4 dc4 pm4 an4 cd4 ct4), sl4⟩) (c4 : PySem.W.codeIn K cd4 "room_in" = true) (k4 : PySem.W.keepIn K (.ref f4) = true)
    (a5 : PySem.W.nsIn K mainGlobals "next_place" = some (some (.ref f5))) (l5 : K.lookup f5 = some ⟨oc5, od5, .func (PySem.W.fnOf "next_place" "next_place" (defArgs (top 6)) (defBody (top 6)) (defScope (top 6)) .none kV5 dc5 pm5 an5 cd5 ct5), sl5⟩) (c5 : PySem.W.codeIn K cd5 "next_place" = true) (k5 : PySem.W.keepIn K (.ref f5) = true)
    (a6 : PySem.W.nsIn K mainGlobals "dealt" = some (some (.ref f6))) (l6 : K.lookup f6 = some ⟨oc6, od6, .func (PySem.W.fnOf "dealt" "dealt" (defArgs (top 7)) (defBody (top 7)) (defScope (top 7)) .none kV6 dc6 pm6 an6 cd6 ct6), sl6⟩) (c6 : PySem.W.codeIn K cd6 "dealt" = true) (k6 : PySem.W.keepIn K (.ref f6) = true)
    (a7 : PySem.W.nsIn K mainGlobals "_law_places" = some (some (.ref f7))) (l7 : K.lookup f7 = some ⟨oc7, od7, .func (PySem.W.fnOf "_law_places" "_law_places" (defArgs (top 13)) (defBody (top 13)) (defScope (top 13)) .none kV7 dc7 pm7 an7 cd7 ct7), sl7⟩) (c7 : PySem.W.codeIn K cd7 "_law_places" = true) (k7 : PySem.W.keepIn K (.ref f7) = true)
    (a8 : PySem.W.nsIn K mainGlobals "divisor" = some (some (.ref f8))) (l8 : K.lookup f8 = some ⟨oc8, od8, .func (PySem.W.fnOf "divisor" "divisor" (defArgs (top 8)) (defBody (top 8)) (defScope (top 8)) .none kV8 dc8 pm8 an8 cd8 ct8), sl8⟩) (c8 : PySem.W.codeIn K cd8 "divisor" = true) (k8 : PySem.W.keepIn K (.ref f8) = true)
    (a9 : PySem.W.nsIn K mainGlobals "height" = some (some (.ref f9))) (l9 : K.lookup f9 = some ⟨oc9, od9, .func (PySem.W.fnOf "height" "height" (defArgs (top 9)) (defBody (top 9)) (defScope (top 9)) .none kV9 dc9 pm9 an9 cd9 ct9), sl9⟩) (c9 : PySem.W.codeIn K cd9 "height" = true) (k9 : PySem.W.keepIn K (.ref f9) = true)
    (a10 : PySem.W.nsIn K mainGlobals "_law_key" = some (some (.ref f10))) (l10 : K.lookup f10 = some ⟨oc10, od10, .func (PySem.W.fnOf "_law_key" "_law_key" (defArgs (top 14)) (defBody (top 14)) (defScope (top 14)) .none kV10 dc10 pm10 an10 cd10 ct10), sl10⟩) (c10 : PySem.W.codeIn K cd10 "_law_key" = true) (k10 : PySem.W.keepIn K (.ref f10) = true)
    (a11 : PySem.W.nsIn K mainGlobals "_law_due" = some (some (.ref f11))) (l11 : K.lookup f11 = some ⟨oc11, od11, .func (PySem.W.fnOf "_law_due" "_law_due" (defArgs (top 15)) (defBody (top 15)) (defScope (top 15)) .none kV11 dc11 pm11 an11 cd11 ct11), sl11⟩) (c11 : PySem.W.codeIn K cd11 "_law_due" = true) (k11 : PySem.W.keepIn K (.ref f11) = true)
    (a12 : PySem.W.nsIn K mainGlobals "_law_least" = some (some (.ref f12))) (l12 : K.lookup f12 = some ⟨oc12, od12, .func (PySem.W.fnOf "_law_least" "_law_least" (defArgs (top 16)) (defBody (top 16)) (defScope (top 16)) .none kV12 dc12 pm12 an12 cd12 ct12), sl12⟩) (c12 : PySem.W.codeIn K cd12 "_law_least" = true) (k12 : PySem.W.keepIn K (.ref f12) = true)
    (a13 : PySem.W.nsIn K mainGlobals "_law_below" = some (some (.ref f13))) (l13 : K.lookup f13 = some ⟨oc13, od13, .func (PySem.W.fnOf "_law_below" "_law_below" (defArgs (top 18)) (defBody (top 18)) (defScope (top 18)) .none kV13 dc13 pm13 an13 cd13 ct13), sl13⟩) (c13 : PySem.W.codeIn K cd13 "_law_below" = true) (k13 : PySem.W.keepIn K (.ref f13) = true)
    (a14 : PySem.W.nsIn K mainGlobals "_law_got" = some (some (.ref f14))) (l14 : K.lookup f14 = some ⟨oc14, od14, .func (PySem.W.fnOf "_law_got" "_law_got" (defArgs (top 19)) (defBody (top 19)) (defScope (top 19)) .none kV14 dc14 pm14 an14 cd14 ct14), sl14⟩) (c14 : PySem.W.codeIn K cd14 "_law_got" = true) (k14 : PySem.W.keepIn K (.ref f14) = true)
    (a15 : PySem.W.nsIn K mainGlobals "_law_height_right" = some (some (.ref f15))) (l15 : K.lookup f15 = some ⟨oc15, od15, .func (PySem.W.fnOf "_law_height_right" "_law_height_right" (defArgs (top 17)) (defBody (top 17)) (defScope (top 17)) .none kV15 dc15 pm15 an15 cd15 ct15), sl15⟩) (c15 : PySem.W.codeIn K cd15 "_law_height_right" = true) (k15 : PySem.W.keepIn K (.ref f15) = true)
    (a16 : PySem.W.nsIn K mainGlobals "_law_ways" = some (some (.ref f16))) (l16 : K.lookup f16 = some ⟨oc16, od16, .func (PySem.W.fnOf "_law_ways" "_law_ways" (defArgs (top 20)) (defBody (top 20)) (defScope (top 20)) .none kV16 dc16 pm16 an16 cd16 ct16), sl16⟩) (c16 : PySem.W.codeIn K cd16 "_law_ways" = true) (k16 : PySem.W.keepIn K (.ref f16) = true)
    (a17 : PySem.W.nsIn K mainGlobals "_law_dealt_right" = some (some (.ref f17))) (l17 : K.lookup f17 = some ⟨oc17, od17, .func (PySem.W.fnOf "_law_dealt_right" "_law_dealt_right" (defArgs (top 21)) (defBody (top 21)) (defScope (top 21)) .none kV17 dc17 pm17 an17 cd17 ct17), sl17⟩) (c17 : PySem.W.codeIn K cd17 "_law_dealt_right" = true) (k17 : PySem.W.keepIn K (.ref f17) = true)
    (a18 : PySem.W.nsIn K mainGlobals "law" = some (some (.ref f18))) (l18 : K.lookup f18 = some ⟨oc18, od18, .func (PySem.W.fnOf "law" "law" (defArgs (top 22)) (defBody (top 22)) (defScope (top 22)) .none kV18 dc18 pm18 an18 cd18 ct18), sl18⟩) (c18 : PySem.W.codeIn K cd18 "law" = true) (k18 : PySem.W.keepIn K (.ref f18) = true)
    (z1 : PySem.W.nsIn K mainGlobals "ValueError" = some (none))
    (z2 : PySem.W.nsIn K mainGlobals "bool" = some (none))
    (z3 : PySem.W.nsIn K mainGlobals "isinstance" = some (none))
    (z4 : PySem.W.nsIn K mainGlobals "len" = some (none))
    (z5 : PySem.W.nsIn K mainGlobals "list" = some (none))
    (z6 : PySem.W.nsIn K mainGlobals "max" = some (none))
    (z7 : PySem.W.nsIn K mainGlobals "min" = some (none))
    (z8 : PySem.W.nsIn K mainGlobals "range" = some (none))
    (z9 : PySem.W.nsIn K mainGlobals "sum" = some (none))
    (z10 : PySem.W.nsIn K mainGlobals "tuple" = some (none))
    (z11 : PySem.W.nsIn K mainGlobals "zip" = some (none)) :
    ∃ fd : FuncData, (∀ (s : Shared) (v : Value), BindsTo s fd ⟨[v], []⟩ [("_law_script", v)]) ∧ ∀ base : Heap, K.In base → base.Ns mainGlobals mg → FnOk l.prog w K mg base CX0 5 fa fd ["_law_script"] (sp_law K) := by
  have e := hfa.symm.trans (PySem.W.mg_of X G a18)
  cases e
  have T : Bt mg := ⟨PySem.W.mg_none_of X G z1, PySem.W.mg_none_of X G z2, PySem.W.mg_none_of X G z3, PySem.W.mg_none_of X G z4, PySem.W.mg_none_of X G z5, PySem.W.mg_none_of X G z6, PySem.W.mg_none_of X G z7, PySem.W.mg_none_of X G z8, PySem.W.mg_none_of X G z9, PySem.W.mg_none_of X G z10, PySem.W.mg_none_of X G z11⟩
  have F1 := fun_mk (st := top 11) l1 c1 k1
  have b1 := F1.binds (ps := ["_law_script", "_law_k"]) fun _ _ _ _ _ _ us hl => match us, hl with | [_, _], _ => rfl
  have F2 := fun_mk (st := top 12) l2 c2 k2
  have b2 := F2.binds (ps := ["_law_script", "_law_k", "_law_many"]) fun _ _ _ _ _ _ us hl => match us, hl with | [_, _, _], _ => rfl
  have F3 := fun_mk (st := top 4) l3 c3 k3
  have b3 := F3.binds (ps := ["a", "v", "b", "w"]) fun _ _ _ _ _ _ us hl => match us, hl with | [_, _, _, _], _ => rfl
  have F4 := fun_mk (st := top 5) l4 c4 k4
  have b4 := F4.binds (ps := ["held", "caps"]) fun _ _ _ _ _ _ us hl => match us, hl with | [_, _], _ => rfl
  have F5 := fun_mk (st := top 6) l5 c5 k5
  have b5 := F5.binds (ps := ["now", "weights", "caps"]) fun _ _ _ _ _ _ us hl => match us, hl with | [_, _, _], _ => rfl
  have F6 := fun_mk (st := top 7) l6 c6 k6
  have b6 := F6.binds (ps := ["held", "weights", "caps", "many"]) fun _ _ _ _ _ _ us hl => match us, hl with | [_, _, _, _], _ => rfl
  have F7 := fun_mk (st := top 13) l7 c7 k7
  have b7 := F7.binds (ps := ["_law_script", "_law_k", "_law_most"]) fun _ _ _ _ _ _ us hl => match us, hl with | [_, _, _], _ => rfl
  have F8 := fun_mk (st := top 8) l8 c8 k8
  have b8 := F8.binds (ps := ["one", "other"]) fun _ _ _ _ _ _ us hl => match us, hl with | [_, _], _ => rfl
  have F9 := fun_mk (st := top 9) l9 c9 k9
  have b9 := F9.binds (ps := ["held", "weights", "got"]) fun _ _ _ _ _ _ us hl => match us, hl with | [_, _, _], _ => rfl
  have F10 := fun_mk (st := top 14) l10 c10 k10
  have b10 := F10.binds (ps := ["_law_number", "_law_weight"]) fun _ _ _ _ _ _ us hl => match us, hl with | [_, _], _ => rfl
  have F11 := fun_mk (st := top 15) l11 c11 k11
  have b11 := F11.binds (ps := ["_law_rows", "_law_got_here"]) fun _ _ _ _ _ _ us hl => match us, hl with | [_, _], _ => rfl
  have F12 := fun_mk (st := top 16) l12 c12 k12
  have b12 := F12.binds (ps := ["_law_top", "_law_bottom"]) fun _ _ _ _ _ _ us hl => match us, hl with | [_, _], _ => rfl
  have F13 := fun_mk (st := top 18) l13 c13 k13
  have b13 := F13.binds (ps := ["_law_rows", "_law_key_here"]) fun _ _ _ _ _ _ us hl => match us, hl with | [_, _], _ => rfl
  have F14 := fun_mk (st := top 19) l14 c14 k14
  have b14 := F14.binds (ps := ["_law_rows", "_law_places_here"]) fun _ _ _ _ _ _ us hl => match us, hl with | [_, _], _ => rfl
  have F15 := fun_mk (st := top 17) l15 c15 k15
  have b15 := F15.binds (ps := ["_law_rows", "_law_got_here"]) fun _ _ _ _ _ _ us hl => match us, hl with | [_, _], _ => rfl
  have F16 := fun_mk (st := top 20) l16 c16 k16
  have b16 := F16.binds (ps := ["_law_rows", "_law_many"]) fun _ _ _ _ _ _ us hl => match us, hl with | [_, _], _ => rfl
  have F17 := fun_mk (st := top 21) l17 c17 k17
  have b17 := F17.binds (ps := ["_law_rows", "_law_many"]) fun _ _ _ _ _ _ us hl => match us, hl with | [_, _], _ => rfl
  have F18 := fun_mk (st := top 22) l18 c18 k18
  refine ⟨PySem.W.fnOf "law" "law" (defArgs (top 22)) (defBody (top 22)) (defScope (top 22)) .none kV18 dc18 pm18 an18 cd18 ct18, fun s v => .of_eq rfl, fun base _ _ => ?_⟩
  have d_cell_at : Def l.prog w K mg base "_law_cell_at" ["_law_script", "_law_k"] 1 (sp_cell_at K) := ⟨_, _, ok_cell_at T  F1, PySem.W.mg_of X G a1, k1, b1⟩
  have d_by : Def l.prog w K mg base "_law_by" ["_law_script", "_law_k", "_law_many"] 2 (sp_by K) := ⟨_, _, ok_by T d_cell_at F2, PySem.W.mg_of X G a2, k2, b2⟩
  have d_is_lighter : Def l.prog w K mg base "is_lighter" ["a", "v", "b", "w"] 1 (sp_is_lighter K) := ⟨_, _, ok_is_lighter  F3, PySem.W.mg_of X G a3, k3, b3⟩
  have d_room_in : Def l.prog w K mg base "room_in" ["held", "caps"] 1 (sp_room_in K) := ⟨_, _, ok_room_in T  F4, PySem.W.mg_of X G a4, k4, b4⟩
  have d_next_place : Def l.prog w K mg base "next_place" ["now", "weights", "caps"] 2 (sp_next_place K) := ⟨_, _, ok_next_place T d_is_lighter F5, PySem.W.mg_of X G a5, k5, b5⟩
  have d_dealt : Def l.prog w K mg base "dealt" ["held", "weights", "caps", "many"] 3 (sp_dealt K) := ⟨_, _, ok_dealt T d_room_in d_next_place F6, PySem.W.mg_of X G a6, k6, b6⟩
  have d_places : Def l.prog w K mg base "_law_places" ["_law_script", "_law_k", "_law_most"] 3 (sp_places K) := ⟨_, _, ok_places T d_cell_at d_by F7, PySem.W.mg_of X G a7, k7, b7⟩
  have d_divisor : Def l.prog w K mg base "divisor" ["one", "other"] 1 (sp_divisor K) := ⟨_, _, ok_divisor  F8, PySem.W.mg_of X G a8, k8, b8⟩
  have d_height : Def l.prog w K mg base "height" ["held", "weights", "got"] 2 (sp_height K) := ⟨_, _, ok_height T d_is_lighter d_divisor F9, PySem.W.mg_of X G a9, k9, b9⟩
  have d_key : Def l.prog w K mg base "_law_key" ["_law_number", "_law_weight"] 1 (sp_key K) := ⟨_, _, ok_key  F10, PySem.W.mg_of X G a10, k10, b10⟩
  have d_due : Def l.prog w K mg base "_law_due" ["_law_rows", "_law_got_here"] 2 (sp_due K) := ⟨_, _, ok_due T d_key F11, PySem.W.mg_of X G a11, k11, b11⟩
  have d_least : Def l.prog w K mg base "_law_least" ["_law_top", "_law_bottom"] 1 (sp_least K) := ⟨_, _, ok_least T  F12, PySem.W.mg_of X G a12, k12, b12⟩
  have d_below : Def l.prog w K mg base "_law_below" ["_law_rows", "_law_key_here"] 1 (sp_below K) := ⟨_, _, ok_below T  F13, PySem.W.mg_of X G a13, k13, b13⟩
  have d_got : Def l.prog w K mg base "_law_got" ["_law_rows", "_law_places_here"] 1 (sp_got K) := ⟨_, _, ok_got T  F14, PySem.W.mg_of X G a14, k14, b14⟩
  have d_height_right : Def l.prog w K mg base "_law_height_right" ["_law_rows", "_law_got_here"] 3 (sp_height_right K) := ⟨_, _, ok_height_right T d_height d_key d_due d_least F15, PySem.W.mg_of X G a15, k15, b15⟩
  have d_ways : Def l.prog w K mg base "_law_ways" ["_law_rows", "_law_many"] 1 (sp_ways K) := ⟨_, _, ok_ways T  F16, PySem.W.mg_of X G a16, k16, b16⟩
  have d_dealt_right : Def l.prog w K mg base "_law_dealt_right" ["_law_rows", "_law_many"] 4 (sp_dealt_right K) := ⟨_, _, ok_dealt_right T d_dealt d_got d_height_right d_below d_due F17, PySem.W.mg_of X G a17, k17, b17⟩
  exact ok_law T d_by d_places d_dealt_right d_height_right d_dealt d_got d_due d_ways F18
theorem walk {l : PySem.W.OpenLaw} {q : Program} {loose : List Str} {XP : (Str → Option Value) → Heap → Prop} {YP : World → Heap → Prop} {d : DefRec} {K : Params → PySem.W.Frag} (hn : l.most = some 63) (hdf : d.params.defaults = [])
    (hY : ∀ (w : World) (h : Heap), YP w h → (K w.params).In h)
    (F : ∀ (w : World) (mg : Str → Option Value) (fa : Addr) (h : Heap), (K w.params).In h → h.Ns mainGlobals mg → mg d.name = some (.ref fa) →
      ∃ fd : FuncData, (∀ (s : Shared) (u : Value), BindsTo s fd ⟨[u], []⟩ [("_law_script", u)]) ∧ ∀ base : Heap, (K w.params).In base → base.Ns mainGlobals mg → FnOk l.prog w (K w.params) mg base CX0 5 fa fd ["_law_script"] (sp_law (K w.params))) :
    PySem.W.WalkO q loose XP YP l.row.toRowW d [] (fun f vs => PySem.call f vs) :=
  L2.walk_of (n := 63) (k := 5) (x := "_law_script") (CX := fun _ => CX0) (sp := fun w => sp_law (K w.params)) hn (by decide) hdf ⟨rfl, by decide, by decide⟩ hY F (fun w H a ns hl Q hS => spLaw_of hl hS) fun _ _ _ _ _ z => z
end SL
open PySem PySem.W PyProof.Rows
set_option maxRecDepth 100000 in
set_option maxHeartbeats 0 in
theorem PySem.Challenge.cw_usher_k32_whole_height_holds : PySem.Challenge.rw_usher_k32_whole_height.Holds := by
  w_on; o_law; k_head; (case hw => w_witness2)
  k_fill
  refine SL.walk (l := PySem.Challenge.rw_usher_k32_whole_height) rfl rfl (fun w h Y => PySem.W.kIn_of Y) ?F
  case F =>
    intro w mg fa h KX G hmg
    refine' SL.all_mk KX G hmg (a1 := ?a1) (l1 := ?l1) (c1 := ?c1) (k1 := ?k1) (a2 := ?a2) (l2 := ?l2) (c2 := ?c2) (k2 := ?k2) (a3 := ?a3) (l3 := ?l3) (c3 := ?c3) (k3 := ?k3) (a4 := ?a4) (l4 := ?l4) (c4 := ?c4) (k4 := ?k4) (a5 := ?a5) (l5 := ?l5) (c5 := ?c5) (k5 := ?k5) (a6 := ?a6) (l6 := ?l6) (c6 := ?c6) (k6 := ?k6) (a7 := ?a7) (l7 := ?l7) (c7 := ?c7) (k7 := ?k7) (a8 := ?a8) (l8 := ?l8) (c8 := ?c8) (k8 := ?k8) (a9 := ?a9) (l9 := ?l9) (c9 := ?c9) (k9 := ?k9) (a10 := ?a10) (l10 := ?l10) (c10 := ?c10) (k10 := ?k10) (a11 := ?a11) (l11 := ?l11) (c11 := ?c11) (k11 := ?k11) (a12 := ?a12) (l12 := ?l12) (c12 := ?c12) (k12 := ?k12) (a13 := ?a13) (l13 := ?l13) (c13 := ?c13) (k13 := ?k13) (a14 := ?a14) (l14 := ?l14) (c14 := ?c14) (k14 := ?k14) (a15 := ?a15) (l15 := ?l15) (c15 := ?c15) (k15 := ?k15) (a16 := ?a16) (l16 := ?l16) (c16 := ?c16) (k16 := ?k16) (a17 := ?a17) (l17 := ?l17) (c17 := ?c17) (k17 := ?k17) (a18 := ?a18) (l18 := ?l18) (c18 := ?c18) (k18 := ?k18) (z1 := ?z1) (z2 := ?z2) (z3 := ?z3) (z4 := ?z4) (z5 := ?z5) (z6 := ?z6) (z7 := ?z7) (z8 := ?z8) (z9 := ?z9) (z10 := ?z10) (z11 := ?z11)
    (case a1 => k_is)
    (case l1 => k_is)
    (case c1 => k_is)
    (case k1 => k_is)
    (case a2 => k_is)
    (case l2 => k_is)
    (case c2 => k_is)
    (case k2 => k_is)
    (case a3 => k_is)
    (case l3 => k_is)
    (case c3 => k_is)
    (case k3 => k_is)
    (case a4 => k_is)
    (case l4 => k_is)
    (case c4 => k_is)
    (case k4 => k_is)
    (case a5 => k_is)
    (case l5 => k_is)
    (case c5 => k_is)
    (case k5 => k_is)
    (case a6 => k_is)
    (case l6 => k_is)
    (case c6 => k_is)
    (case k6 => k_is)
    (case a7 => k_is)
    (case l7 => k_is)
    (case c7 => k_is)
    (case k7 => k_is)
    (case a8 => k_is)
    (case l8 => k_is)
    (case c8 => k_is)
    (case k8 => k_is)
    (case a9 => k_is)
    (case l9 => k_is)
    (case c9 => k_is)
    (case k9 => k_is)
    (case a10 => k_is)
    (case l10 => k_is)
    (case c10 => k_is)
    (case k10 => k_is)
    (case a11 => k_is)
    (case l11 => k_is)
    (case c11 => k_is)
    (case k11 => k_is)
    (case a12 => k_is)
    (case l12 => k_is)
    (case c12 => k_is)
    (case k12 => k_is)
    (case a13 => k_is)
    (case l13 => k_is)
    (case c13 => k_is)
    (case k13 => k_is)
    (case a14 => k_is)
    (case l14 => k_is)
    (case c14 => k_is)
    (case k14 => k_is)
    (case a15 => k_is)
    (case l15 => k_is)
    (case c15 => k_is)
    (case k15 => k_is)
    (case a16 => k_is)
    (case l16 => k_is)
    (case c16 => k_is)
    (case k16 => k_is)
    (case a17 => k_is)
    (case l17 => k_is)
    (case c17 => k_is)
    (case k17 => k_is)
    (case a18 => k_is)
    (case l18 => k_is)
    (case c18 => k_is)
    (case k18 => k_is)
    (case z1 => k_is)
    (case z2 => k_is)
    (case z3 => k_is)
    (case z4 => k_is)
    (case z5 => k_is)
    (case z6 => k_is)
    (case z7 => k_is)
    (case z8 => k_is)
    (case z9 => k_is)
    (case z10 => k_is)
    (case z11 => k_is)
#print axioms PySem.Challenge.cw_usher_k32_whole_height_holds
