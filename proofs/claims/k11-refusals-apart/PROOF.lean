import PyProof.Rows.All
import Wide.All
import OpenK.AllK
import Wide.FinOn
import HandS.ForMost
import HandS.Exc
import HandS.TryOnly
import HandS.ExcOwn
import HandS.WordsExc
import HandS.Wide
import HandS.IsInst
import HandS.Evl
import HandS.Style
import HandS.More
import KE.DataEq
import HandS.Replace
import KE.IntTextLaws
import KE.SortData
import HandS.TupAny
import HandS.ExcIs
import HandS.ExcCtx
import KE.DataMinMax
import PyProof.P3Eq
import PyProof.ReprRoads
import PyProof.ReprLen
import HandS.DictComp
import HandS.SetFor
import KE.DataFind
import HandS.Hot
import HandS.HotCalls
import HandS.ListItems
import HandS.Rev
import KE.KTryMore
import HandS.ExcValue
import PySem.Challenge.RW_usher_k11_refusals_apart
set_option Elab.async false
set_option linter.all false
set_option maxRecDepth 100000
set_option maxHeartbeats 4000000
/-! the layer SL: descriptions of values over a heap that only grows, owned cells, judgements upon the text itself -/
namespace SL
open PySem PySem.Spec PyProof.Rows L2

theorem same_rd {H H' : Hp} {a : Addr} {u : HO} (e : Same H H') (h : Rd H a u) : Rd H' a u := by
  rcases h with h | ⟨o, h⟩
  · exact .inl (e _ _ h)
  · exact .inr ⟨o, e _ _ h⟩
theorem same_l {K : PySem.W.Frag} {H H' : Hp} {a : Addr} {xs : List V} (e : Same H H') (h : SqL K H a xs) : SqL K H' a xs := e.seq h
theorem same_t {K : PySem.W.Frag} {H H' : Hp} {a : Addr} {xs : List V} (e : Same H H') (h : SqT K H a xs) : SqT K H' a xs := by
  rcases h with h | h
  · exact .inl (same_rd e h)
  · exact .inr h
theorem same_new {H : Hp} {p : Addr} {o : HO} (h : H p = none) : Same H (upd H p o) := fun a u e => by
  rw [upd_ne (ne_of_none e h)]
  exact e
theorem same_under {H H' : Hp} {p : Addr} {o : HO} (e : Same H H') (h : H p = none) : Same H (upd H' p o) := fun a u ha => by
  rw [upd_ne (ne_of_none ha h)]
  exact e a u ha
theorem same_both {H H' : Hp} {p : Addr} {o : HO} (e : Same H H') : Same (upd H p o) (upd H' p o) := fun a u ha => by
  by_cases h : a = p
  · subst h
    rw [upd_same] at ha ⊢
    exact ha
  · rw [upd_ne h] at ha ⊢
    exact e a u ha
mutual
/-- data in made lists and in tuples -/
inductive Da (K : PySem.W.Frag) (H : Hp) : V → PyData → Prop
  | non : Da K H .non .none
  | bl (b : Bool) : Da K H (.bl b) (.bool b)
  | int (i : Int) : Da K H (.int i) (.int i)
  | str (x : Str) : Da K H (.str x) (.str x)
  | lst {a : Addr} {xs : List V} {ds : List PyData} : H a = some (.lst xs) → DaAll K H xs ds → Da K H (.ref a) (.list ds)
  | tup {a : Addr} {xs : List V} {ds : List PyData} : SqT K H a xs → DaAll K H xs ds → Da K H (.ref a) (.tuple ds)
inductive DaAll (K : PySem.W.Frag) (H : Hp) : List V → List PyData → Prop
  | nil : DaAll K H [] []
  | cons {v : V} {vs : List V} {d : PyData} {ds : List PyData} : Da K H v d → DaAll K H vs ds → DaAll K H (v :: vs) (d :: ds)
end
mutual
theorem da_dp {K : PySem.W.Frag} {H : Hp} : ∀ {v : V} {d : PyData}, Da K H v d → Dp K H v d
  | _, _, .non => .non
  | _, _, .bl b => .bl b
  | _, _, .int i => .int i
  | _, _, .str x => .str x
  | _, _, .lst h r => .lst (SqL.of h) (daAll_dp r)
  | _, _, .tup h r => .tup h (daAll_dp r)
theorem daAll_dp {K : PySem.W.Frag} {H : Hp} : ∀ {vs : List V} {ds : List PyData}, DaAll K H vs ds → DpAll K H vs ds
  | _, _, .nil => .nil
  | _, _, .cons h r => .cons (da_dp h) (daAll_dp r)
end
mutual
theorem da_same {K : PySem.W.Frag} {H H' : Hp} (e : Same H H') : ∀ {v : V} {d : PyData}, Da K H v d → Da K H' v d
  | _, _, .non => .non
  | _, _, .bl b => .bl b
  | _, _, .int i => .int i
  | _, _, .str x => .str x
  | _, _, .lst h r => .lst (e _ _ h) (daAll_same e r)
  | _, _, .tup h r => .tup (same_t e h) (daAll_same e r)
theorem daAll_same {K : PySem.W.Frag} {H H' : Hp} (e : Same H H') : ∀ {vs : List V} {ds : List PyData}, DaAll K H vs ds → DaAll K H' vs ds
  | _, _, .nil => .nil
  | _, _, .cons h r => .cons (da_same e h) (daAll_same e r)
end
theorem daAll_len {K : PySem.W.Frag} {H : Hp} : ∀ {vs : List V} {ds : List PyData}, DaAll K H vs ds → vs.length = ds.length
  | _, _, .nil => rfl
  | _, _, .cons _ r => by rw [List.length_cons, List.length_cons, daAll_len r]
theorem daAll_get {K : PySem.W.Frag} {H : Hp} : ∀ {vs : List V} {ds : List PyData} {i : Nat} {v : V}, DaAll K H vs ds → vs[i]? = some v → ∃ d, ds[i]? = some d ∧ Da K H v d
  | _, _, _, _, .nil, e => by simp at e
  | _, _, 0, _, .cons h _, e => by
    simp at e
    subst e
    exact ⟨_, rfl, h⟩
  | _, _, i + 1, v, .cons _ r, e => by
    obtain ⟨d, e1, h1⟩ := daAll_get (i := i) (v := v) r (by simpa using e)
    exact ⟨d, by simpa using e1, h1⟩
theorem daAll_get' {K : PySem.W.Frag} {H : Hp} : ∀ {vs : List V} {ds : List PyData} {i : Nat} {d : PyData}, DaAll K H vs ds → ds[i]? = some d → ∃ v, vs[i]? = some v ∧ Da K H v d
  | _, _, _, _, .nil, e => by simp at e
  | _, _, 0, _, .cons h _, e => by
    simp at e
    subst e
    exact ⟨_, rfl, h⟩
  | _, _, i + 1, d, .cons _ r, e => by
    obtain ⟨v, e1, h1⟩ := daAll_get' (i := i) (d := d) r (by simpa using e)
    exact ⟨v, by simpa using e1, h1⟩
theorem daAll_app {K : PySem.W.Frag} {H : Hp} : ∀ {vs ws : List V} {ds es : List PyData}, DaAll K H vs ds → DaAll K H ws es → DaAll K H (vs ++ ws) (ds ++ es)
  | _, _, _, _, .nil, r => r
  | _, _, _, _, .cons h t, r => .cons h (daAll_app t r)
theorem daAll_take {K : PySem.W.Frag} {H : Hp} : ∀ {vs : List V} {ds : List PyData} (n : Nat), DaAll K H vs ds → DaAll K H (vs.take n) (ds.take n)
  | _, _, 0, _ => by rw [List.take_zero, List.take_zero]; exact .nil
  | _, _, _ + 1, .nil => .nil
  | _, _, n + 1, .cons h t => .cons h (daAll_take n t)
theorem daAll_drop {K : PySem.W.Frag} {H : Hp} : ∀ {vs : List V} {ds : List PyData} (n : Nat), DaAll K H vs ds → DaAll K H (vs.drop n) (ds.drop n)
  | _, _, 0, r => r
  | _, _, _ + 1, .nil => .nil
  | _, _, n + 1, .cons _ t => daAll_drop n t
theorem daAll_set {K : PySem.W.Frag} {H : Hp} {v : V} {d : PyData} (h : Da K H v d) : ∀ {vs : List V} {ds : List PyData} (n : Nat), DaAll K H vs ds → DaAll K H (vs.set n v) (ds.set n d)
  | _, _, _, .nil => .nil
  | _, _, 0, .cons _ t => .cons h t
  | _, _, n + 1, .cons g t => .cons g (daAll_set h n t)

/-! ### what is said of a value -/
structure Sl where
  r : PySem.W.Frag → Hp → V → Prop
  mono : ∀ {K H H' v}, Same H H' → r K H v → r K H' v
/-- this very value -/
def sv (v : V) : Sl := ⟨fun _ _ x => x = v, fun _ h => h⟩
/-- such data -/
def sd (d : PyData) : Sl := ⟨fun K H x => Da K H x d, fun e h => da_same e h⟩
/-- the description of data: scalars by their value -/
def sl : PyData → Sl
  | .none => sv .non
  | .bool b => sv (.bl b)
  | .int i => sv (.int i)
  | .str x => sv (.str x)
  | d => sd d
theorem sl_da {K : PySem.W.Frag} {H : Hp} {v : V} {d : PyData} : (sl d).r K H v ↔ Da K H v d := by
  constructor
  · intro h
    cases d with
    | none => cases (show v = .non from h); exact .non
    | bool b => cases (show v = .bl b from h); exact .bl b
    | int i => cases (show v = .int i from h); exact .int i
    | str x => cases (show v = .str x from h); exact .str x
    | list _ => exact h
    | tuple _ => exact h
    | dict _ => exact h
  · intro h
    cases h with
    | non => rfl
    | bl b => rfl
    | int i => rfl
    | str x => rfl
    | lst h r => exact Da.lst h r
    | tup h r => exact Da.tup h r
inductive All2 {α β : Type} (F : α → β → Prop) : List α → List β → Prop
  | nil : All2 F [] []
  | cons {a b as bs} : F a b → All2 F as bs → All2 F (a :: as) (b :: bs)
theorem All2.len {α β : Type} {F : α → β → Prop} : ∀ {as : List α} {bs : List β}, All2 F as bs → as.length = bs.length
  | _, _, .nil => rfl
  | _, _, .cons _ r => by rw [List.length_cons, List.length_cons, r.len]
theorem All2.imp {α β : Type} {F G : α → β → Prop} (h : ∀ a b, F a b → G a b) : ∀ {as : List α} {bs : List β}, All2 F as bs → All2 G as bs
  | _, _, .nil => .nil
  | _, _, .cons p r => .cons (h _ _ p) (r.imp h)
theorem All2.get {α β : Type} {F : α → β → Prop} : ∀ {as : List α} {bs : List β} {i : Nat} {a : α}, All2 F as bs → as[i]? = some a → ∃ b, bs[i]? = some b ∧ F a b
  | _, _, _, _, .nil, e => by simp at e
  | _, _, 0, _, .cons h _, e => by
    simp at e
    subst e
    exact ⟨_, rfl, h⟩
  | _, _, i + 1, a, .cons _ r, e => by
    obtain ⟨b, e1, h1⟩ := All2.get (i := i) (a := a) r (by simpa using e)
    exact ⟨b, by simpa using e1, h1⟩
theorem All2.set {α β : Type} {F : α → β → Prop} {a : α} {b : β} (h : F a b) : ∀ {as : List α} {bs : List β} (i : Nat), All2 F as bs → All2 F (as.set i a) (bs.set i b)
  | _, _, _, .nil => .nil
  | _, _, 0, .cons _ t => .cons h t
  | _, _, i + 1, .cons g t => .cons g (All2.set h i t)
theorem All2.app {α β : Type} {F : α → β → Prop} : ∀ {as as' : List α} {bs bs' : List β}, All2 F as bs → All2 F as' bs' → All2 F (as ++ as') (bs ++ bs')
  | _, _, _, _, .nil, r => r
  | _, _, _, _, .cons h t, r => .cons h (t.app r)
theorem All2.eraseIdx {α β : Type} {F : α → β → Prop} : ∀ {as : List α} {bs : List β} (i : Nat), All2 F as bs → All2 F (as.eraseIdx i) (bs.eraseIdx i)
  | _, _, _, .nil => .nil
  | _, _, 0, .cons _ t => t
  | _, _, i + 1, .cons g t => .cons g (All2.eraseIdx i t)

/-- a tuple of such -/
def stup (ss : List Sl) : Sl := ⟨fun K H x => ∃ p vs, x = .ref p ∧ SqT K H p vs ∧ All2 (fun (s : Sl) v => s.r K H v) ss vs, fun e ⟨p, vs, h1, h2, h3⟩ => ⟨p, vs, h1, same_t e h2, h3.imp fun s v h => s.mono e h⟩⟩
/-- one of two -/
def sif (c : Bool) (s t : Sl) : Sl := if c then s else t

/-! ### owned things: what is said of a part of the heap of one's own -/
structure Res where
  r : PySem.W.Frag → Hp → Hp → Prop
  mono : ∀ {K S S' O}, Same S S' → r K S O → r K S' O
def hOne (p : Addr) (o : HO) : Hp := fun a => if a = p then some o else none
theorem hOne_same {p : Addr} {o : HO} : hOne p o p = some o := if_pos rfl
theorem hOne_ne {p a : Addr} {o : HO} (h : a ≠ p) : hOne p o a = none := if_neg h
theorem hOne_some {p a : Addr} {o u : HO} (h : hOne p o a = some u) : a = p ∧ u = o := by
  unfold hOne at h
  by_cases e : a = p
  · rw [if_pos e] at h
    exact ⟨e, (Option.some.inj h).symm⟩
  · rw [if_neg e] at h
    cases h
theorem hOne_not {p a : Addr} {o : HO} (h : hOne p o a ≠ none) : a = p := by
  by_cases e : a = p
  · exact e
  · exact absurd (hOne_ne e) h
/-- a list at p, of such data -/
def rL (p : Addr) (ds : List PyData) : Res := ⟨fun K S O => ∃ vs, O = hOne p (.lst vs) ∧ DaAll K S vs ds, fun e ⟨vs, h1, h2⟩ => ⟨vs, h1, daAll_same e h2⟩⟩
/-- a list at p, of such values -/
def rLs (p : Addr) (ss : List Sl) : Res := ⟨fun K S O => ∃ vs, O = hOne p (.lst vs) ∧ All2 (fun (s : Sl) v => s.r K S v) ss vs, fun e ⟨vs, h1, h2⟩ => ⟨vs, h1, h2.imp fun s v h => s.mono e h⟩⟩
/-- a dict at p -/
def rD (p : Addr) (kds : List (Key × PyData)) : Res :=
  ⟨fun K S O => ∃ kvs, O = hOne p (.dK kvs) ∧ All2 (fun (a : Key × PyData) (b : Key × V) => a.1 = b.1 ∧ Da K S b.2 a.2) kds kvs, fun e ⟨kvs, h1, h2⟩ => ⟨kvs, h1, h2.imp fun a b h => ⟨h.1, da_same e h.2⟩⟩⟩

/-- apart from one another, parts of H, apart from S -/
structure Own (K : PySem.W.Frag) (S H : Hp) (R : List Res) (Os : List Hp) : Prop where
  all : All2 (fun (ρ : Res) O => ρ.r K S O ∧ Same O H ∧ ∀ a, O a ≠ none → S a = none) R Os
  dis : Os.Pairwise fun O O' => ∀ a, O a ≠ none → O' a = none
def InOs (Os : List Hp) (a : Addr) : Prop := ∃ O ∈ Os, O a ≠ none

/-- the entry of a def: the heap, its lasting part, what is its own -/
structure Ent where
  H0 : Hp
  S0 : Hp
  A0 : Addr → Prop
/-- a state within a def -/
structure SR (K : PySem.W.Frag) (E : Ent) (Γ : List (Option Sl)) (R : List Res) (S : Hp) (σ : L2.St) (H : Hp) : Prop where
  sub : Same S H
  ext : Same E.S0 S
  fr : ∀ a o, E.H0 a = some o → ¬ E.A0 a → H a = some o
  new : ∀ a, S a ≠ none → E.S0 a ≠ none ∨ E.H0 a = none ∨ E.A0 a
  own : ∃ Os, Own K S H R Os ∧ ∀ O ∈ Os, ∀ a, O a ≠ none → E.A0 a ∨ E.H0 a = none
  slots : All2 (fun (s : Option Sl) (o : Option V) => ∀ s', s = some s' → ∃ v, o = some v ∧ s'.r K S v) Γ σ

section
variable {K : PySem.W.Frag} {E : Ent} {Γ Γ' : List (Option Sl)} {R R' : List Res} {S S' H H' : Hp} {σ : L2.St} {p : Addr} {o : HO} {v : V}

theorem SR.slot (q : SR K E Γ R S σ H) {k : Nat} {s : Sl} (h : Γ[k]? = some (some s)) : ∃ v, σ[k]? = some (some v) ∧ s.r K S v := by
  obtain ⟨o, e, h1⟩ := q.slots.get h
  obtain ⟨v, e2, h2⟩ := h1 s rfl
  exact ⟨v, by rw [e, e2], h2⟩
theorem SR.setSlot (q : SR K E Γ R S σ H) (k : Nat) {s : Sl} (h : s.r K S v) : SR K E (Γ.set k (some s)) R S (σ.set k (some v)) H :=
  ⟨q.sub, q.ext, q.fr, q.new, q.own, All2.set (fun s' e => ⟨v, rfl, by rw [← Option.some.inj e]; exact h⟩) k q.slots⟩
theorem SR.free (q : SR K E Γ R S σ H) (h : H p = none) : S p = none := q.sub.free h
/-- something new, lasting -/
theorem SR.grow (q : SR K E Γ R S σ H) (h : H p = none) : SR K E Γ R (upd S p o) σ (upd H p o) where
  sub := same_both q.sub
  ext := same_under q.ext (by
    cases e : E.S0 p with
    | none => rfl
    | some u => rw [q.sub p u (q.ext p u e)] at h; cases h)
  fr := fun a u e n => by
    by_cases ha : a = p
    · subst ha; rw [q.fr a u e n] at h; cases h
    · rw [upd_ne ha]; exact q.fr a u e n
  new := fun a ha => by
    by_cases e : a = p
    · subst e
      by_cases n : E.A0 a
      · exact .inr (.inr n)
      · cases e0 : E.H0 a with
        | none => exact .inr (.inl rfl)
        | some u => rw [q.fr a u e0 n] at h; cases h
    · rw [upd_ne e] at ha; exact q.new a ha
  own := by
    obtain ⟨Os, ⟨h1, h2⟩, h3⟩ := q.own
    refine ⟨Os, ⟨h1.imp fun ρ O hh => ⟨ρ.mono (same_new (q.free h)) hh.1, same_under hh.2.1 ?_, fun a ha => ?_⟩, h2⟩, h3⟩
    · cases e : O p with
      | none => rfl
      | some u => rw [hh.2.1 p u e] at h; cases h
    · have ne : a ≠ p := by
        rintro rfl
        cases e : O a with
        | none => exact ha e
        | some u => rw [hh.2.1 a u e] at h; cases h
      rw [upd_ne ne]
      exact hh.2.2 a ha
  slots := q.slots.imp fun s o h1 s' e => let ⟨v, h2, h3⟩ := h1 s' e; ⟨v, h2, s'.mono (same_new (q.free h)) h3⟩
theorem pairwise_app {α : Type} {P : α → α → Prop} {l : List α} {x : α} (h : l.Pairwise P) (hx : ∀ y ∈ l, P y x) : (l ++ [x]).Pairwise P :=
  List.pairwise_append.mpr ⟨h, List.pairwise_singleton _ _, fun a ha b hb => by rw [List.mem_singleton.mp hb]; exact hx a ha⟩
theorem all2_mem {α β : Type} {F : α → β → Prop} : ∀ {as : List α} {bs : List β} {b : β}, All2 F as bs → b ∈ bs → ∃ a ∈ as, F a b
  | _, _, _, .nil, h => by simp at h
  | _, _, b, .cons p r, h => by
    rcases List.mem_cons.mp h with e | h
    · subst e; exact ⟨_, List.mem_cons_self, p⟩
    · obtain ⟨a, h1, h2⟩ := all2_mem r h
      exact ⟨a, List.mem_cons_of_mem _ h1, h2⟩
/-- something new, one's own -/
theorem SR.mine (q : SR K E Γ R S σ H) {ρ : Res} (h : H p = none) (hr : ρ.r K S (hOne p o)) : SR K E Γ (R ++ [ρ]) S σ (upd H p o) where
  sub := same_under q.sub (q.free h)
  ext := q.ext
  fr := fun a u e n => by
    by_cases ha : a = p
    · subst ha; rw [q.fr a u e n] at h; cases h
    · rw [upd_ne ha]; exact q.fr a u e n
  new := q.new
  own := by
    obtain ⟨Os, ⟨h1, h2⟩, h3⟩ := q.own
    have h1' : All2 (fun (ρ : Res) O => ρ.r K S O ∧ Same O (upd H p o) ∧ ∀ a, O a ≠ none → S a = none) R Os := h1.imp fun ρ O hh => ⟨hh.1, same_under hh.2.1 (by
      cases e : O p with
      | none => rfl
      | some u => rw [hh.2.1 p u e] at h; cases h), hh.2.2⟩
    refine ⟨Os ++ [hOne p o], ⟨h1'.app (.cons ⟨hr, fun a u e => ?_, fun a ha => ?_⟩ .nil), pairwise_app h2 fun O hO a ha => ?_⟩, fun O hO a ha => ?_⟩
    · obtain ⟨e1, e2⟩ := hOne_some e
      subst e1 e2
      exact upd_same
    · rw [hOne_not ha]
      exact q.free h
    · have ne : a ≠ p := by
        rintro rfl
        obtain ⟨ρ', _, hh⟩ := all2_mem h1 hO
        cases e : O a with
        | none => exact ha e
        | some u => rw [hh.2.1 a u e] at h; cases h
      exact hOne_ne ne
    · rcases List.mem_append.mp hO with hO | hO
      · exact h3 O hO a ha
      · rw [List.mem_singleton.mp hO] at ha
        rw [hOne_not ha]
        by_cases n : E.A0 p
        · exact .inl n
        · cases e0 : E.H0 p with
          | none => exact .inr rfl
          | some u => rw [q.fr p u e0 n] at h; cases h
  slots := q.slots
theorem SR.weakΓ (q : SR K E Γ R S σ H) (h : All2 (fun (s : Option Sl) (o : Option Sl) => ∀ s', s = some s' → ∃ t, o = some t ∧ ∀ v, t.r K S v → s'.r K S v) Γ' Γ) : SR K E Γ' R S σ H := by
  refine ⟨q.sub, q.ext, q.fr, q.new, q.own, ?_⟩
  have hs := q.slots
  clear q
  induction h generalizing σ with
  | nil => cases hs; exact .nil
  | cons p _ ih =>
    cases hs with
    | cons a b =>
      refine .cons (fun s' e => ?_) (ih b)
      obtain ⟨t, e2, h2⟩ := p s' e
      obtain ⟨v, e3, h3⟩ := a t e2
      exact ⟨v, e3, h2 v h3⟩
end
end SL

/-! judgements upon expressions -/
namespace SL
open PySem PySem.Spec PyProof.Rows L2

/-- many contexts with one world -/
structure Fam {ι : Type} (X : ι → Cx) (P : Program) (w : World) (K : PySem.W.Frag) (mg : Str → Option Value) (base : Heap) (A : Around) (N : List Str) : Prop where
  fP : ∀ i, (X i).prog = P
  fw : ∀ i, (X i).w = w
  fK : ∀ i, (X i).K = K
  fmg : ∀ i, (X i).mg = mg
  fbase : ∀ i, (X i).base = base
  fA : ∀ i, (X i).A = A
  fN : ∀ i, (X i).N = N
  nd : List.Nodup N
abbrev Slots := List (Option Sl)
def Kont (K : PySem.W.Frag) (E : Ent) (Γ : Slots) (R' : List Res) (σ : L2.St) (S : Hp) (s : Sl) (Q : VK) : Prop :=
  ∀ v S' H', Same S S' → SR K E Γ R' S' σ H' → s.r K S' v → Q v H'
def KontB (K : PySem.W.Frag) (E : Ent) (Γ : Slots) (R' : List Res) (σ : L2.St) (S : Hp) (b : Bool) (Q : Bool → Hp → Prop) : Prop :=
  ∀ S' H', Same S S' → SR K E Γ R' S' σ H' → Q b H'
def KontA (K : PySem.W.Frag) (E : Ent) (Γ : Slots) (R' : List Res) (σ : L2.St) (S : Hp) (ss : List Sl) (Q : List V → Hp → Prop) : Prop :=
  ∀ vs S' H', Same S S' → SR K E Γ R' S' σ H' → All2 (fun (s : Sl) v => s.r K S' v) ss vs → Q vs H'
section
variable {ι : Type} (X : ι → Cx) (K : PySem.W.Frag) (E : Ent)
/-- e gives a value of which s is said -/
def EvJ (Γ : Slots) (R : List Res) (e : Expr) (R' : List Res) (s : Sl) : Prop :=
  ∃ t : TE, (∀ i, PE (X i) e t) ∧ ∀ S σ H (Q : VK), SR K E Γ R S σ H → Kont K E Γ R' σ S s Q → t σ H Q
/-- the same, by something that is chosen on the way (an address) -/
def EvN {ν : Type} (Γ : Slots) (R : List Res) (e : Expr) (R' : ν → List Res) (s : ν → Sl) : Prop :=
  ∃ t : TE, (∀ i, PE (X i) e t) ∧ ∀ S σ H (Q : VK), SR K E Γ R S σ H → (∀ n, Kont K E Γ (R' n) σ S (s n) Q) → t σ H Q
/-- a new list -/
abbrev EvL (Γ : Slots) (R : List Res) (e : Expr) (R' : List Res) (ds : List PyData) : Prop := EvN X K E Γ R e (fun p : Addr => R' ++ [rL p ds]) fun p => sv (.ref p)
def TeJ (Γ : Slots) (R : List Res) (e : Expr) (b : Bool) : Prop :=
  ∃ t : TT, (∀ i, PT (X i) e t) ∧ ∀ S σ H (Q : Bool → Hp → Prop), SR K E Γ R S σ H → KontB K E Γ R σ S b Q → t σ H Q
def TwJ (Γ : Slots) (R : List Res) (e : Expr) (b : Bool) : Prop :=
  ∃ t : TT, (∀ i, PW (X i) e t) ∧ ∀ S σ H (Q : Bool → Hp → Prop), SR K E Γ R S σ H → KontB K E Γ R σ S b Q → t σ H Q
def ArJ (Γ : Slots) (R : List Res) (es : List Expr) (R' : List Res) (ss : List Sl) : Prop :=
  ∃ t : TA, (∀ i, PA (X i) es t) ∧ ∀ S σ H (Q : List V → Hp → Prop), SR K E Γ R S σ H → KontA K E Γ R' σ S ss Q → t σ H Q
end

section
variable {ι : Type} {X : ι → Cx} {K : PySem.W.Frag} {E : Ent} {Γ : Slots} {R R1 R2' R3 : List Res} {a b c e : Expr} {es : List Expr} {pos : Pos} {s s1 s2 s3 : Sl}
  {P : Program} {w : World} {mg : Str → Option Value} {base : Heap} {A : Around} {N : List Str}

/-! ### names and constants -/
theorem ev_var (k : Nat) {x : Str} (hN : ∀ i, (X i).N[k]? = some x := by exact fun _ => rfl) (hv : ∀ i, Vis (X i).env.scope x := by first | exact fun _ => Or.inl rfl | exact fun _ => Or.inr (Or.inl rfl) | exact fun _ => Or.inr (Or.inr rfl)) (h : Γ[k]? = some (some s) := by rfl) (hd : (x == ("__debug__" : Str)) = false := by decide) (hcd : (x == ("__classdict__" : Str)) = false := by decide) :
    EvJ X K E Γ R (.Name x pos) R s :=
  ⟨tVar k, fun i => pe_var (hN i) (hv i) hd hcd, fun S σ H Q q k' => let ⟨v, e, r⟩ := q.slot h; ⟨v, e, k' v S H (Same.refl _) q r⟩⟩
theorem ev_const {v : V} (h : ∀ i, PE (X i) e (tC v)) : EvJ X K E Γ R e R (sv v) := ⟨tC v, h, fun S σ H Q q k => k v S H (Same.refl _) q rfl⟩
theorem ev_int {n : Int} {j : Nat} : EvJ X K E Γ R (.Constant (.int n) j pos) R (sv (.int n)) := ev_const fun _ => pe_int
theorem ev_str {x : Str} {j : Nat} : EvJ X K E Γ R (.Constant (.str x) j pos) R (sv (.str x)) := ev_const fun _ => pe_str
theorem ev_bool {k : Bool} {j : Nat} : EvJ X K E Γ R (.Constant (.bool k) j pos) R (sv (.bl k)) := ev_const fun _ => pe_bl
theorem ev_none {j : Nat} : EvJ X K E Γ R (.Constant .none j pos) R (sv .non) := ev_const fun _ => pe_non
theorem ev_glob {x : Str} {v : V} {u : Value} (F : Fam X P w K mg base A N) (hm : mg x = some u) (r : RelV v u) (hg : ∀ i, Gl (X i) x := by exact fun _ => rfl) (hd : (x == ("__debug__" : Str)) = false := by decide) : EvJ X K E Γ R (.Name x pos) R (sv v) :=
  ev_const fun i => pe_glob (hg i) (by rw [F.fmg i]; exact hm) r hd
theorem ev_bltn {x : Str} {v : V} {u : Value} (F : Fam X P w K mg base A N) (hm : mg x = none) (hv : bootBuiltins x = some u) (r : RelV v u) (hg : ∀ i, Gl (X i) x := by exact fun _ => rfl) (hn : x ≠ "__name__" := by decide) (hd : (x == ("__debug__" : Str)) = false := by decide) :
    EvJ X K E Γ R (.Name x pos) R (sv v) := ev_const fun i => pe_bltn (hg i) (by rw [F.fmg i]; exact hm) hv r hn hd
theorem ev_is (h : EvJ X K E Γ R e R1 s1) (hs : ∀ S v, s1.r K S v → s2.r K S v) : EvJ X K E Γ R e R1 s2 :=
  let ⟨t, h1, h2⟩ := h; ⟨t, h1, fun S σ H Q q k => h2 S σ H Q q fun v S' H' e q' r => k v S' H' e q' (hs _ _ r)⟩
theorem ev_eq (h : EvJ X K E Γ R e R1 s1) (hs : s1 = s2) : EvJ X K E Γ R e R1 s2 := hs ▸ h

/-! ### operators -/
variable (X) (K) (E) in
/-- an operation on two values -/
def BinR (f : Value → Value → Sem Value) (R : List Res) (s1 s2 s3 : Sl) : Prop :=
  ∃ r : R2, (∀ i, OpR (X i) f r) ∧ ∀ Γ S σ H x y (Q : VK), SR K E Γ R S σ H → s1.r K S x → s2.r K S y → Kont K E Γ R σ S s3 Q → r x y H Q
variable (X) (K) (E) in
def BinRN {ν : Type} (f : Value → Value → Sem Value) (R : List Res) (s1 s2 : Sl) (R' : ν → List Res) (s3 : ν → Sl) : Prop :=
  ∃ r : R2, (∀ i, OpR (X i) f r) ∧ ∀ Γ S σ H x y (Q : VK), SR K E Γ R S σ H → s1.r K S x → s2.r K S y → (∀ n, Kont K E Γ (R' n) σ S (s3 n) Q) → r x y H Q
theorem ev_bin {op : Operator} (ha : EvJ X K E Γ R a R1 s1) (hb : EvJ X K E Γ R1 b R2' s2) (ho : BinR X K E (binaryOp op) R2' s1 s2 s3) : EvJ X K E Γ R (.BinOp a op b pos) R2' s3 := by
  obtain ⟨ta, a1, a2⟩ := ha
  obtain ⟨tb, b1, b2⟩ := hb
  obtain ⟨r, o1, o2⟩ := ho
  refine ⟨tOp r ta tb, fun i => pe_op (o1 i) (a1 i) (b1 i), fun S σ H Q q k => ?_⟩
  refine a2 S σ H _ q fun x S1 H1 e1 q1 r1 => b2 S1 σ H1 _ q1 fun y S2 H2 e2 q2 r2 => ?_
  exact o2 Γ S2 σ H2 x y Q q2 (s1.mono e2 r1) r2 fun v S3 H3 e3 q3 r3 => k v S3 H3 ((e1.trans e2).trans e3) q3 r3
theorem ev_binN {ν : Type} {R' : ν → List Res} {s3 : ν → Sl} {op : Operator} (ha : EvJ X K E Γ R a R1 s1) (hb : EvJ X K E Γ R1 b R2' s2) (ho : BinRN X K E (binaryOp op) R2' s1 s2 R' s3) : EvN X K E Γ R (.BinOp a op b pos) R' s3 := by
  obtain ⟨ta, a1, a2⟩ := ha
  obtain ⟨tb, b1, b2⟩ := hb
  obtain ⟨r, o1, o2⟩ := ho
  refine ⟨tOp r ta tb, fun i => pe_op (o1 i) (a1 i) (b1 i), fun S σ H Q q k => ?_⟩
  refine a2 S σ H _ q fun x S1 H1 e1 q1 r1 => b2 S1 σ H1 _ q1 fun y S2 H2 e2 q2 r2 => ?_
  exact o2 Γ S2 σ H2 x y Q q2 (s1.mono e2 r1) r2 fun n v S3 H3 e3 q3 r3 => k n v S3 H3 ((e1.trans e2).trans e3) q3 r3
/-- a comparison as a value, as a test -/
theorem ev_cmp {op : CmpOp} (ha : EvJ X K E Γ R a R1 s1) (hb : EvJ X K E Γ R1 b R2' s2) (ho : BinR X K E (compareOp op) R2' s1 s2 s3) (hm : behindInMarks op b = false := by first | exact nomark _ | with_unfolding_all rfl) : EvJ X K E Γ R (.Compare a [op] [b] pos) R2' s3 := by
  obtain ⟨ta, a1, a2⟩ := ha
  obtain ⟨tb, b1, b2⟩ := hb
  obtain ⟨r, o1, o2⟩ := ho
  refine ⟨tOp r ta tb, fun i => pe_cmpR (o1 i) (a1 i) (b1 i) hm, fun S σ H Q q k => ?_⟩
  refine a2 S σ H _ q fun x S1 H1 e1 q1 r1 => b2 S1 σ H1 _ q1 fun y S2 H2 e2 q2 r2 => ?_
  exact o2 Γ S2 σ H2 x y Q q2 (s1.mono e2 r1) r2 fun v S3 H3 e3 q3 r3 => k v S3 H3 ((e1.trans e2).trans e3) q3 r3
theorem te_cmp {op : CmpOp} {k : Bool} (ha : EvJ X K E Γ R a R s1) (hb : EvJ X K E Γ R b R s2) (ho : BinR X K E (compareOp op) R s1 s2 (sv (.bl k))) (hm : behindInMarks op b = false := by first | exact nomark _ | with_unfolding_all rfl) : TeJ X K E Γ R (.Compare a [op] [b] pos) k := by
  obtain ⟨ta, a1, a2⟩ := ha
  obtain ⟨tb, b1, b2⟩ := hb
  obtain ⟨r, o1, o2⟩ := ho
  refine ⟨tTest (tOp r ta tb), fun i => pt_cmpR (o1 i) (a1 i) (b1 i) hm, fun S σ H Q q k' => ?_⟩
  refine a2 S σ H _ q fun x S1 H1 e1 q1 r1 => b2 S1 σ H1 _ q1 fun y S2 H2 e2 q2 r2 => ?_
  exact o2 Γ S2 σ H2 x y _ q2 (s1.mono e2 r1) r2 fun v S3 H3 e3 q3 r3 => ⟨k, r3, k' S3 H3 ((e1.trans e2).trans e3) q3⟩
/-- a bool's value as a test (he: fun _ _ => rfl) -/
theorem te_val {k : Bool} (h : EvJ X K E Γ R e R (sv (.bl k))) (he : ∀ i whole, isTrue e (X i).env whole = (do let v ← whole; standAt e.pos; holding [v] (truthy v)) := by exact fun _ _ => rfl) : TeJ X K E Γ R e k := by
  obtain ⟨t, h1, h2⟩ := h
  exact ⟨tB t, fun i => pt_val (h1 i) (he i), fun S σ H Q q k' => h2 S σ H _ q fun v S1 H1 e1 q1 r1 => ⟨k, r1, k' S1 H1 e1 q1⟩⟩
theorem te_not {k : Bool} (h : TeJ X K E Γ R e k) : TeJ X K E Γ R (.UnaryOp .Not e pos) (!k) := by
  obtain ⟨t, h1, h2⟩ := h
  exact ⟨tNot t, fun i => pt_not (h1 i), fun S σ H Q q k' => h2 S σ H _ q fun S1 H1 e1 q1 => k' S1 H1 e1 q1⟩
theorem tw_and1 {k : Bool} (h : TeJ X K E Γ R a k) : TwJ X K E Γ R (.BoolOp .And [a] pos) k := let ⟨t, h1, h2⟩ := h; ⟨t, fun i => pw_and1 (h1 i), h2⟩
theorem tw_or1 {k : Bool} (h : TeJ X K E Γ R a k) : TwJ X K E Γ R (.BoolOp .Or [a] pos) k := let ⟨t, h1, h2⟩ := h; ⟨t, fun i => pw_or1 (h1 i), h2⟩
theorem pw_never : PW (X i₀) e (fun _ _ _ => False) := ⟨fun _ _ _ _ _ _ _ h => h.elim⟩
theorem pt_never {Y : Cx} : PT Y e (fun _ _ _ => False) := ⟨fun _ _ _ _ _ _ h => h.elim⟩
theorem pe_never {Y : Cx} : PE Y e (fun _ _ _ => False) := ⟨fun _ _ _ _ _ _ h => h.elim⟩
theorem tw_and {k j : Bool} (ha : TeJ X K E Γ R a k) (hb : k = true → TwJ X K E Γ R (.BoolOp .And (b :: es) pos) j) : TwJ X K E Γ R (.BoolOp .And (a :: b :: es) pos) (k && j) := by
  obtain ⟨ta, a1, a2⟩ := ha
  cases k with
  | true =>
    obtain ⟨tb, b1, b2⟩ := hb rfl
    exact ⟨tAnd ta tb, fun i => pw_and (a1 i) (b1 i), fun S σ H Q q k' => a2 S σ H _ q fun S1 H1 e1 q1 => b2 S1 σ H1 Q q1 fun S2 H2 e2 q2 => k' S2 H2 (e1.trans e2) q2⟩
  | false => exact ⟨tAnd ta _, fun i => pw_and (a1 i) (pw_never (i₀ := i)), fun S σ H Q q k' => a2 S σ H _ q fun S1 H1 e1 q1 => k' S1 H1 e1 q1⟩
theorem tw_or {k j : Bool} (ha : TeJ X K E Γ R a k) (hb : k = false → TwJ X K E Γ R (.BoolOp .Or (b :: es) pos) j) : TwJ X K E Γ R (.BoolOp .Or (a :: b :: es) pos) (k || j) := by
  obtain ⟨ta, a1, a2⟩ := ha
  cases k with
  | false =>
    obtain ⟨tb, b1, b2⟩ := hb rfl
    exact ⟨tOr ta tb, fun i => pw_or (a1 i) (b1 i), fun S σ H Q q k' => a2 S σ H _ q fun S1 H1 e1 q1 => b2 S1 σ H1 Q q1 fun S2 H2 e2 q2 => k' S2 H2 (e1.trans e2) q2⟩
  | true => exact ⟨tOr ta _, fun i => pw_or (a1 i) (pw_never (i₀ := i)), fun S σ H Q q k' => a2 S σ H _ q fun S1 H1 e1 q1 => k' S1 H1 e1 q1⟩
theorem te_bop {k : Bool} (h : TwJ X K E Γ R e k) : TeJ X K E Γ R e k := let ⟨t, h1, h2⟩ := h; ⟨t, fun i => (h1 i).pt, h2⟩
/-- and, or, not as values, of bools -/
theorem ev_one {op : BoolOp} (h : EvJ X K E Γ R a R1 s) : EvJ X K E Γ R (.BoolOp op [a] pos) R1 s := let ⟨t, h1, h2⟩ := h; ⟨t, fun i => pe_one (h1 i), h2⟩
theorem ev_and {k j : Bool} (ha : EvJ X K E Γ R a R (sv (.bl k))) (hb : k = true → EvJ X K E Γ R (.BoolOp .And (b :: es) pos) R (sv (.bl j))) : EvJ X K E Γ R (.BoolOp .And (a :: b :: es) pos) R (sv (.bl (k && j))) := by
  obtain ⟨ta, a1, a2⟩ := ha
  cases k with
  | true =>
    obtain ⟨tb, b1, b2⟩ := hb rfl
    exact ⟨tAndV ta tb, fun i => pe_and (a1 i) (b1 i), fun S σ H Q q k' => a2 S σ H _ q fun v S1 H1 e1 q1 r1 => ⟨true, r1, b2 S1 σ H1 Q q1 fun v S2 H2 e2 q2 r2 => k' v S2 H2 (e1.trans e2) q2 r2⟩⟩
  | false => exact ⟨tAndV ta _, fun i => pe_and (a1 i) pe_never, fun S σ H Q q k' => a2 S σ H _ q fun v S1 H1 e1 q1 r1 => ⟨false, r1, k' _ S1 H1 e1 q1 rfl⟩⟩
theorem ev_or {k j : Bool} (ha : EvJ X K E Γ R a R (sv (.bl k))) (hb : k = false → EvJ X K E Γ R (.BoolOp .Or (b :: es) pos) R (sv (.bl j))) : EvJ X K E Γ R (.BoolOp .Or (a :: b :: es) pos) R (sv (.bl (k || j))) := by
  obtain ⟨ta, a1, a2⟩ := ha
  cases k with
  | false =>
    obtain ⟨tb, b1, b2⟩ := hb rfl
    exact ⟨tOrV ta tb, fun i => pe_or (a1 i) (b1 i), fun S σ H Q q k' => a2 S σ H _ q fun v S1 H1 e1 q1 r1 => ⟨false, r1, b2 S1 σ H1 Q q1 fun v S2 H2 e2 q2 r2 => k' v S2 H2 (e1.trans e2) q2 r2⟩⟩
  | true => exact ⟨tOrV ta _, fun i => pe_or (a1 i) pe_never, fun S σ H Q q k' => a2 S σ H _ q fun v S1 H1 e1 q1 r1 => ⟨true, r1, k' _ S1 H1 e1 q1 rfl⟩⟩
theorem ev_not {k : Bool} (h : EvJ X K E Γ R e R1 (sv (.bl k))) : EvJ X K E Γ R (.UnaryOp .Not e pos) R1 (sv (.bl (!k))) := by
  obtain ⟨t, h1, h2⟩ := h
  exact ⟨tNotV t, fun i => pe_not (h1 i), fun S σ H Q q k' => h2 S σ H _ q fun v S1 H1 e1 q1 r1 => ⟨k, r1, k' _ S1 H1 e1 q1 rfl⟩⟩
/-- a if c else b: sif, or the one of both (ev_ifT, ev_ifF) -/
theorem ev_ifExp {k : Bool} (hc : TeJ X K E Γ R c k) (ha : k = true → EvJ X K E Γ R a R1 s) (hb : k = false → EvJ X K E Γ R b R1 s) : EvJ X K E Γ R (.IfExp c a b pos) R1 s := by
  obtain ⟨tc, c1, c2⟩ := hc
  cases k with
  | true =>
    obtain ⟨ta, a1, a2⟩ := ha rfl
    exact ⟨tIf tc ta _, fun i => pe_ifExp (c1 i) (a1 i) pe_never, fun S σ H Q q k' => c2 S σ H _ q fun S1 H1 e1 q1 => iteT (a2 S1 σ H1 Q q1 fun v S2 H2 e2 q2 r2 => k' v S2 H2 (e1.trans e2) q2 r2)⟩
  | false =>
    obtain ⟨tb, b1, b2⟩ := hb rfl
    exact ⟨tIf tc _ tb, fun i => pe_ifExp (c1 i) pe_never (b1 i), fun S σ H Q q k' => c2 S σ H _ q fun S1 H1 e1 q1 => iteF (b2 S1 σ H1 Q q1 fun v S2 H2 e2 q2 r2 => k' v S2 H2 (e1.trans e2) q2 r2)⟩
/-- lists of arguments -/
theorem ar_nil : ArJ X K E Γ R [] R [] := ⟨tNil, fun _ => pa_nil, fun S σ H Q q k => k [] S H (Same.refl _) q .nil⟩
theorem ar_cons {ss : List Sl} (h : EvJ X K E Γ R e R1 s) (hr : ArJ X K E Γ R1 es R2' ss) (hs : ∀ i, starEach (e :: es) (X i).env = (false, eval e (X i).env) :: starEach es (X i).env := by exact fun _ => rfl) : ArJ X K E Γ R (e :: es) R2' (s :: ss) := by
  obtain ⟨t, h1, h2⟩ := h
  obtain ⟨u, g1, g2⟩ := hr
  exact ⟨tCons t u, fun i => pa_cons (h1 i) (g1 i) (hs i), fun S σ H Q q k => h2 S σ H _ q fun v S1 H1 e1 q1 r1 => g2 S1 σ H1 _ q1 fun vs S2 H2 e2 q2 r2 => k (v :: vs) S2 H2 (e1.trans e2) q2 (.cons (s.mono e2 r1) r2)⟩
/-- a tuple of them: lasting -/
theorem ev_tup {ss : List Sl} {k1 : Nat} (h : ArJ X K E Γ R es R1 ss) (hz : ss.length ≤ 1000 := by exact Nat.le_of_ble_eq_true rfl) : EvJ X K E Γ R (.Tuple es k1 pos) R1 (stup ss) := by
  obtain ⟨t, h1, h2⟩ := h
  refine ⟨tTup t, fun i => pe_tup (h1 i), fun S σ H Q q k => h2 S σ H _ q fun vs S1 H1 e1 q1 r1 => ⟨Nat.le_of_lt (small1000 (by rw [← r1.len]; exact hz)), fun p hp => ?_⟩⟩
  refine k (.ref p) (upd S1 p (.tup vs)) _ (e1.trans (same_new (q1.free hp))) (q1.grow hp) ⟨p, vs, rfl, SqT.of upd_same, r1.imp fun s v h => s.mono (same_new (q1.free hp)) h⟩
/-- all of a list of descriptions are data -/
inductive AreD : List Sl → List PyData → Prop
  | nil : AreD [] []
  | cons {s : Sl} {d : PyData} {ss : List Sl} {ds : List PyData} : (∀ K S v, s.r K S v → Da K S v d) → AreD ss ds → AreD (s :: ss) (d :: ds)
theorem AreD.all {S : Hp} : ∀ {ss : List Sl} {ds : List PyData} {vs : List V}, AreD ss ds → All2 (fun (s : Sl) v => s.r K S v) ss vs → DaAll K S vs ds
  | _, _, _, .nil, .nil => .nil
  | _, _, _, .cons h r, .cons g t => .cons (h _ _ _ g) (r.all t)
theorem ad_int {i : Int} : ∀ K S v, (sv (.int i)).r K S v → Da K S v (.int i) := fun _ _ v h => by cases (show v = .int i from h); exact .int i
theorem ad_str {i : Str} : ∀ K S v, (sv (.str i)).r K S v → Da K S v (.str i) := fun _ _ v h => by cases (show v = .str i from h); exact .str i
theorem ad_bl {i : Bool} : ∀ K S v, (sv (.bl i)).r K S v → Da K S v (.bool i) := fun _ _ v h => by cases (show v = .bl i from h); exact .bl i
theorem ad_non : ∀ K S v, (sv .non).r K S v → Da K S v .none := fun _ _ v h => by cases (show v = .non from h); exact .non
theorem ad_d {d : PyData} : ∀ K S v, (sd d).r K S v → Da K S v d := fun _ _ v h => h
theorem ad_l {d : PyData} : ∀ K S v, (sl d).r K S v → Da K S v d := fun _ _ v h => sl_da.mp h
theorem ad_tup {ss : List Sl} {ds : List PyData} (h : AreD ss ds) : ∀ K S v, (stup ss).r K S v → Da K S v (.tuple ds) := fun K S v ⟨p, vs, e, h1, h2⟩ => by
  subst e
  exact .tup h1 (h.all h2)
theorem ev_d {d : PyData} (h : EvJ X K E Γ R e R1 s) (hd : ∀ K S v, s.r K S v → Da K S v d) : EvJ X K E Γ R e R1 (sd d) := ev_is h fun S v r => hd K S v r
/-- a written list -/
theorem el_lst {ss : List Sl} {ds : List PyData} (h : ArJ X K E Γ R es R1 ss) (hd : AreD ss ds) (hz : ss.length ≤ 1000 := by exact Nat.le_of_ble_eq_true rfl) : EvL X K E Γ R (.List es pos) R1 ds := by
  obtain ⟨t, h1, h2⟩ := h
  refine ⟨tLst t, fun i => pe_lst (h1 i), fun S σ H Q q k => h2 S σ H _ q fun vs S1 H1 e1 q1 r1 => ⟨Nat.le_of_lt (small1000 (by rw [← r1.len]; exact hz)), fun p hp => ?_⟩⟩
  exact k p (.ref p) S1 _ e1 (q1.mine hp ⟨vs, rfl, hd.all r1⟩) rfl
/-- one's own list becomes lasting -/
theorem SR.freeze {S H : Hp} {σ : L2.St} {p : Addr} {ds : List PyData} (q : SR K E Γ (R ++ [rL p ds]) S σ H) : ∃ S', Same S S' ∧ SR K E Γ R S' σ H ∧ Da K S' (.ref p) (.list ds) := by
  obtain ⟨Os, ⟨h1, h2⟩, h3⟩ := q.own
  obtain ⟨Os', O, rfl, g1, gr, gs, gn⟩ : ∃ Os' O, Os = Os' ++ [O] ∧ All2 (fun (ρ : Res) O => ρ.r K S O ∧ Same O H ∧ ∀ a, O a ≠ none → S a = none) R Os' ∧ (rL p ds).r K S O ∧ Same O H ∧ ∀ a, O a ≠ none → S a = none := by
    clear h2 h3 q
    induction R generalizing Os with
    | nil =>
      cases h1 with
      | cons a b =>
        cases b
        exact ⟨[], _, rfl, .nil, a.1, a.2.1, a.2.2⟩
    | cons r R ih =>
      cases h1 with
      | cons a b =>
        obtain ⟨Os', O, e, g⟩ := ih _ b
        subst e
        exact ⟨_ :: Os', O, rfl, .cons a g.1, g.2⟩
  obtain ⟨vs, rfl, hv⟩ := gr
  have hp : H p = some (.lst vs) := gs p _ hOne_same
  have sp : S p = none := gn p (by rw [hOne_same]; exact fun z => nomatch z)
  obtain ⟨d1, _, d3⟩ := List.pairwise_append.mp h2
  refine ⟨upd S p (.lst vs), same_new sp, ⟨fun a u e => ?_, q.ext.trans (same_new sp), q.fr, fun a ha => ?_, ⟨Os', ⟨?_, d1⟩, fun O hO => h3 O (List.mem_append_left _ hO)⟩, q.slots.imp fun s o h1 s' e => let ⟨v, e2, e3⟩ := h1 s' e; ⟨v, e2, s'.mono (same_new sp) e3⟩⟩, .lst upd_same (daAll_same (same_new sp) hv)⟩
  · by_cases ha : a = p
    · subst ha; rw [upd_same] at e; cases e; exact hp
    · rw [upd_ne ha] at e; exact q.sub a u e
  · by_cases e : a = p
    · subst e
      rcases h3 (hOne a (.lst vs)) (List.mem_append_right _ (List.mem_singleton.mpr rfl)) a (by rw [hOne_same]; exact fun z => nomatch z) with z | z
      · exact .inr (.inr z)
      · exact .inr (.inl z)
    · rw [upd_ne e] at ha
      exact q.new a ha
  · have apart : ∀ O ∈ Os', O p = none := fun O hO => by
      cases e : O p with
      | none => rfl
      | some u =>
        have := d3 O hO (hOne p (.lst vs)) (List.mem_singleton.mpr rfl) p (by rw [e]; exact fun z => nomatch z)
        rw [hOne_same] at this
        cases this
    clear h1 h2 h3 q d1 d3
    induction g1 with
    | nil => exact .nil
    | cons a b ih =>
      refine .cons ⟨Res.mono _ (same_new sp) a.1, a.2.1, fun x hx => ?_⟩ (ih fun O hO => apart O (List.mem_cons_of_mem _ hO))
      have ne : x ≠ p := fun e => hx (by rw [e]; exact apart _ List.mem_cons_self)
      rw [upd_ne ne]
      exact a.2.2 x hx
theorem frz {ds : List PyData} (h : EvL X K E Γ R e R1 ds) : EvJ X K E Γ R e R1 (sd (.list ds)) := by
  obtain ⟨t, h1, h2⟩ := h
  refine ⟨t, h1, fun S σ H Q q k => h2 S σ H Q q fun p v S1 H1 e1 q1 r1 => ?_⟩
  cases (show v = .ref p from r1)
  obtain ⟨S2, e2, q2, hd⟩ := q1.freeze
  exact k _ S2 H1 (e1.trans e2) q2 hd
end
end SL

/-! operators, subscripts, built-ins -/
namespace SL
open PySem PySem.Spec PyProof.Rows L2
section
variable {ι : Type} {X : ι → Cx} {K : PySem.W.Frag} {E : Ent} {Γ : Slots} {R R1 R2' R3 : List Res} {a b c e : Expr} {es : List Expr} {pos : Pos} {s s1 s2 s3 : Sl}
  {P : Program} {w : World} {mg : Str → Option Value} {base : Heap} {A : Around} {N : List Str}
theorem br_pure {f : Value → Value → Sem Value} {v1 v2 v3 : V} {r : R2} (h : ∀ i, OpR (X i) f r) (hr : ∀ H (Q : VK), Q v3 H → r v1 v2 H Q) : BinR X K E f R (sv v1) (sv v2) (sv v3) :=
  ⟨r, h, fun Γ S σ H x y Q q r1 r2 k => by
    cases (show x = v1 from r1)
    cases (show y = v2 from r2)
    exact hr H Q (k v3 S H (Same.refl _) q rfl)⟩
variable {i j : Int} {x y : Str}
theorem br_add : BinR X K E (binaryOp .Add) R (sv (.int i)) (sv (.int j)) (sv (.int (i + j))) := br_pure (fun _ => op_add) fun H Q q => ⟨i, j, rfl, rfl, q⟩
theorem br_sub : BinR X K E (binaryOp .Sub) R (sv (.int i)) (sv (.int j)) (sv (.int (i - j))) := br_pure (fun _ => op_sub) fun H Q q => ⟨i, j, rfl, rfl, q⟩
theorem br_mul (h : CMul i j) : BinR X K E (binaryOp .Mult) R (sv (.int i)) (sv (.int j)) (sv (.int (i * j))) := br_pure (fun _ => op_mul) fun H Q q => ⟨i, j, rfl, rfl, h, q⟩
theorem br_mulW (h : CMulW i j) : BinR X K E (binaryOp .Mult) R (sv (.int i)) (sv (.int j)) (sv (.int (i * j))) := br_pure (fun _ => op_mulW) fun H Q q => ⟨i, j, rfl, rfl, h, q⟩
theorem br_fdiv (h : CDiv i j) : BinR X K E (binaryOp .FloorDiv) R (sv (.int i)) (sv (.int j)) (sv (.int (i / j))) := br_pure (fun _ => op_fdiv) fun H Q q => ⟨i, j, rfl, rfl, h, q⟩
theorem br_fdivW (h : CDivW i j) : BinR X K E (binaryOp .FloorDiv) R (sv (.int i)) (sv (.int j)) (sv (.int (i / j))) := br_pure (fun _ => op_fdivW) fun H Q q => ⟨i, j, rfl, rfl, h, q⟩
theorem br_mod (h : 0 < j) : BinR X K E (binaryOp .Mod) R (sv (.int i)) (sv (.int j)) (sv (.int (i % j))) := br_pure (fun _ => op_mod) fun H Q q => ⟨i, j, rfl, rfl, h, q⟩
theorem br_pow (h : CPow i j) : BinR X K E (binaryOp .Pow) R (sv (.int i)) (sv (.int j)) (sv (.int (i ^ j.toNat))) := br_pure (fun _ => op_pow) fun H Q q => ⟨i, j, rfl, rfl, h, q⟩
theorem br_shr (h : 0 ≤ j) : BinR X K E (binaryOp .RShift) R (sv (.int i)) (sv (.int j)) (sv (.int (i / 2 ^ j.toNat))) := br_pure (fun _ => op_shr) fun H Q q => ⟨i, j, rfl, rfl, h, q⟩
theorem br_adds (h : x.length + y.length ≤ sizeLine) : BinR X K E (binaryOp .Add) R (sv (.str x)) (sv (.str y)) (sv (.str (x ++ y))) := br_pure (fun _ => op_add_str) fun H Q q => ⟨x, y, rfl, rfl, h, q⟩
theorem br_lt : BinR X K E (compareOp .Lt) R (sv (.int i)) (sv (.int j)) (sv (.bl (decide (i < j)))) := br_pure (fun _ => op_lt) fun H Q q => ⟨i, j, rfl, rfl, q⟩
theorem br_le : BinR X K E (compareOp .LtE) R (sv (.int i)) (sv (.int j)) (sv (.bl (decide (i ≤ j)))) := br_pure (fun _ => op_le) fun H Q q => ⟨i, j, rfl, rfl, q⟩
theorem br_gt : BinR X K E (compareOp .Gt) R (sv (.int i)) (sv (.int j)) (sv (.bl (decide (j < i)))) := br_pure (fun _ => op_gt) fun H Q q => ⟨i, j, rfl, rfl, q⟩
theorem br_ge : BinR X K E (compareOp .GtE) R (sv (.int i)) (sv (.int j)) (sv (.bl (decide (j ≤ i)))) := br_pure (fun _ => op_ge) fun H Q q => ⟨i, j, rfl, rfl, q⟩
theorem dec_inj {α : Type} {f : α → V} (hf : ∀ a b, f a = f b → a = b) {a b : α} [Decidable (a = b)] : decide (f a = f b) = decide (a = b) := decide_eq_decide.mpr ⟨hf a b, fun e => congrArg f e⟩
theorem br_eqI : BinR X K E (compareOp .Eq) R (sv (.int i)) (sv (.int j)) (sv (.bl (decide (i = j)))) := br_pure (fun _ => op_eq) fun H Q q => ⟨rfl, by rw [dec_inj (f := V.int) fun _ _ h => V.int.inj h]; exact q⟩
theorem br_neI : BinR X K E (compareOp .NotEq) R (sv (.int i)) (sv (.int j)) (sv (.bl (!decide (i = j)))) := br_pure (fun _ => op_ne) fun H Q q => ⟨rfl, by rw [dec_inj (f := V.int) fun _ _ h => V.int.inj h]; exact q⟩
theorem br_eqS : BinR X K E (compareOp .Eq) R (sv (.str x)) (sv (.str y)) (sv (.bl (decide (x = y)))) := br_pure (fun _ => op_eq) fun H Q q => ⟨rfl, by rw [dec_inj (f := V.str) fun _ _ h => V.str.inj h]; exact q⟩
theorem br_neS : BinR X K E (compareOp .NotEq) R (sv (.str x)) (sv (.str y)) (sv (.bl (!decide (x = y)))) := br_pure (fun _ => op_ne) fun H Q q => ⟨rfl, by rw [dec_inj (f := V.str) fun _ _ h => V.str.inj h]; exact q⟩
theorem br_eqB {k l : Bool} : BinR X K E (compareOp .Eq) R (sv (.bl k)) (sv (.bl l)) (sv (.bl (decide (k = l)))) := br_pure (fun _ => op_eq) fun H Q q => ⟨rfl, by rw [dec_inj (f := V.bl) fun _ _ h => V.bl.inj h]; exact q⟩
theorem br_neB {k l : Bool} : BinR X K E (compareOp .NotEq) R (sv (.bl k)) (sv (.bl l)) (sv (.bl (!decide (k = l)))) := br_pure (fun _ => op_ne) fun H Q q => ⟨rfl, by rw [dec_inj (f := V.bl) fun _ _ h => V.bl.inj h]; exact q⟩
/-- scalars of two kinds (None beside an int, a text ..) -/
theorem br_eqV {v u : V} (h : scal v u = true) : BinR X K E (compareOp .Eq) R (sv v) (sv u) (sv (.bl (decide (v = u)))) := br_pure (fun _ => op_eq) fun H Q q => ⟨h, q⟩
theorem br_neV {v u : V} (h : scal v u = true) : BinR X K E (compareOp .NotEq) R (sv v) (sv u) (sv (.bl (!decide (v = u)))) := br_pure (fun _ => op_ne) fun H Q q => ⟨h, q⟩
theorem br_isN {v : V} : BinR X K E (compareOp .Is) R (sv v) (sv .non) (sv (.bl (decide (v = .non)))) := br_pure (fun _ => op_isN) fun H Q q => ⟨rfl, q⟩
theorem br_notN {v : V} : BinR X K E (compareOp .IsNot) R (sv v) (sv .non) (sv (.bl (!decide (v = .non)))) := br_pure (fun _ => op_notN) fun H Q q => ⟨rfl, q⟩
/-- data is None or not, by what it is -/
def nonD : PyData → Bool
  | .none => true
  | _ => false
theorem da_non {S : Hp} {v : V} {d : PyData} (h : Da K S v d) : decide (v = .non) = nonD d := by
  cases h <;> rfl
theorem br_isND {d : PyData} : BinR X K E (compareOp .Is) R (sd d) (sv .non) (sv (.bl (nonD d))) :=
  ⟨_, fun _ => op_isN, fun Γ S σ H x y Q q r1 r2 k => by
    cases (show y = .non from r2)
    exact ⟨rfl, k _ S H (Same.refl _) q (by rw [da_non r1]; rfl)⟩⟩
theorem br_notND {d : PyData} : BinR X K E (compareOp .IsNot) R (sd d) (sv .non) (sv (.bl (!nonD d))) :=
  ⟨_, fun _ => op_notN, fun Γ S σ H x y Q q r1 r2 k => by
    cases (show y = .non from r2)
    exact ⟨rfl, k _ S H (Same.refl _) q (by rw [da_non r1]; rfl)⟩⟩
/-- one sign in a text -/
theorem br_inS {n : Nat} : BinR X K E (compareOp .In) R (sv (.str ⟨#[n]⟩)) (sv (.str y)) (sv (.bl (decide (n ∈ y.cps.toList)))) := br_pure (fun _ => op_in_sign) fun H Q q => ⟨n, y, rfl, rfl, q⟩
theorem br_notInS {n : Nat} : BinR X K E (compareOp .NotIn) R (sv (.str ⟨#[n]⟩)) (sv (.str y)) (sv (.bl (!decide (n ∈ y.cps.toList)))) := br_pure (fun _ => op_notIn_sign) fun H Q q => ⟨n, y, rfl, rfl, q⟩

/-! ### lists that are read -/
/-- what s says is a list of the data ds -/
def LV (K : PySem.W.Frag) (R : List Res) (s : Sl) (ds : List PyData) : Prop := ∀ (E : Ent) (Γ : Slots) (S : Hp) (σ : L2.St) (H : Hp) (v : V), SR K E Γ R S σ H → s.r K S v → ∃ p vs, v = .ref p ∧ H p = some (.lst vs) ∧ DaAll K S vs ds
theorem lv_d {ds : List PyData} : LV K R (sd (.list ds)) ds := fun E Γ S σ H v q r => by
  cases r with
  | lst h t => exact ⟨_, _, rfl, q.sub _ _ h, t⟩
theorem SR.res (k : Nat) {ρ : Res} {S H : Hp} {σ : L2.St} (h : R[k]? = some ρ) (q : SR K E Γ R S σ H) : ∃ O, ρ.r K S O ∧ Same O H := by
  obtain ⟨Os, ⟨h1, _⟩, _⟩ := q.own
  obtain ⟨O, _, g1, g2, _⟩ := h1.get h
  exact ⟨O, g1, g2⟩
theorem lv_o (k : Nat) {p : Addr} {ds : List PyData} (h : R[k]? = some (rL p ds)) : LV K R (sv (.ref p)) ds := fun E Γ S σ H v q r => by
  cases (show v = .ref p from r)
  obtain ⟨O, ⟨vs, e, h1⟩, h2⟩ := q.res k h
  subst e
  exact ⟨p, vs, rfl, h2 p _ hOne_same, h1⟩
/-- a tuple -/
def TV (K : PySem.W.Frag) (R : List Res) (s : Sl) (ds : List PyData) : Prop := ∀ (E : Ent) (Γ : Slots) (S : Hp) (σ : L2.St) (H : Hp) (v : V), SR K E Γ R S σ H → s.r K S v → ∃ p vs, v = .ref p ∧ SqT K S p vs ∧ DaAll K S vs ds
theorem tv_d {ds : List PyData} : TV K R (sd (.tuple ds)) ds := fun E Γ S σ H v q r => by
  cases r with
  | tup h t => exact ⟨_, _, rfl, h, t⟩
theorem tv_s {ss : List Sl} {ds : List PyData} (h : AreD ss ds) : TV K R (stup ss) ds := fun E Γ S σ H v q ⟨p, vs, e, h1, h2⟩ => ⟨p, vs, e, h1, h.all h2⟩
/-- the script: a list of ints from outside -/
def sscr (ns : List Int) : Sl := ⟨fun K H v => ∃ p, v = .ref p ∧ SqL K H p (ns.map V.int), fun e ⟨p, h1, h2⟩ => ⟨p, h1, same_l e h2⟩⟩

theorem atI_len {α β : Type} {xs : List α} {ys : List β} {n : Int} {y : β} (hl : xs.length = ys.length) (h : atI ys n = some y) : ∃ (m : Nat) (x : α), ys[m]? = some y ∧ xs[m]? = some x ∧ atI xs n = some x := by
  unfold atI at h ⊢
  rw [hl]
  cases e : ixN ys.length n with
  | none => rw [e] at h; cases h
  | some m =>
    rw [e] at h
    have h' : ys[m]? = some y := h
    have hm := (List.getElem?_eq_some_iff.mp h').1
    exact ⟨m, xs[m]'(by omega), h', List.getElem?_eq_getElem (by omega), List.getElem?_eq_getElem (by omega)⟩
variable (X) (K) (E) in
/-- o[i] -/
def IxJ (R : List Res) (s1 s2 s3 : Sl) : Prop := ∃ r : R2, (∀ i, IxR (X i) r) ∧ ∀ Γ S σ H x y (Q : VK), SR K E Γ R S σ H → s1.r K S x → s2.r K S y → Kont K E Γ R σ S s3 Q → r x y H Q
theorem ev_ix (ha : EvJ X K E Γ R a R1 s1) (hb : EvJ X K E Γ R1 b R2' s2) (ho : IxJ X K E R2' s1 s2 s3) (hp : PlainIx b := by exact fun _ _ => rfl) : EvJ X K E Γ R (.Subscript a b pos) R2' s3 := by
  obtain ⟨ta, a1, a2⟩ := ha
  obtain ⟨tb, b1, b2⟩ := hb
  obtain ⟨r, o1, o2⟩ := ho
  refine ⟨tOp r ta tb, fun i => pe_ix (o1 i) (a1 i) (b1 i) hp, fun S σ H Q q k => ?_⟩
  refine a2 S σ H _ q fun x S1 H1 e1 q1 r1 => b2 S1 σ H1 _ q1 fun y S2 H2 e2 q2 r2 => ?_
  exact o2 Γ S2 σ H2 x y Q q2 (s1.mono e2 r1) r2 fun v S3 H3 e3 q3 r3 => k v S3 H3 ((e1.trans e2).trans e3) q3 r3
theorem ix_lst (F : Fam X P w K mg base A N) {ds : List PyData} {d : PyData} (h : LV K R s1 ds) (hi : atI ds i = some d) : IxJ X K E R s1 (sv (.int i)) (sl d) :=
  ⟨rIxL K, fun n => by rw [← F.fK n]; exact ix_list, fun Γ S σ H x y Q q r1 r2 k => by
    cases (show y = .int i from r2)
    obtain ⟨p, vs, rfl, h1, h2⟩ := h E Γ S σ H x q r1
    obtain ⟨m, v, e1, e2, e3⟩ := atI_len (daAll_len h2) hi
    obtain ⟨d', e4, h4⟩ := daAll_get h2 e2
    rw [e1] at e4
    cases e4
    exact ⟨p, vs, i, v, rfl, rfl, SqL.of h1, e3, k v S H (Same.refl _) q (sl_da.mpr h4)⟩⟩
theorem ix_tpl (F : Fam X P w K mg base A N) {ds : List PyData} {d : PyData} (h : TV K R s1 ds) (hi : atI ds i = some d) : IxJ X K E R s1 (sv (.int i)) (sl d) :=
  ⟨rIxT K, fun n => by rw [← F.fK n]; exact ix_tup, fun Γ S σ H x y Q q r1 r2 k => by
    cases (show y = .int i from r2)
    obtain ⟨p, vs, rfl, h1, h2⟩ := h E Γ S σ H x q r1
    obtain ⟨m, v, e1, e2, e3⟩ := atI_len (daAll_len h2) hi
    obtain ⟨d', e4, h4⟩ := daAll_get h2 e2
    rw [e1] at e4
    cases e4
    exact ⟨p, vs, i, v, rfl, rfl, same_t q.sub h1, e3, k v S H (Same.refl _) q (sl_da.mpr h4)⟩⟩
theorem ix_stup (F : Fam X P w K mg base A N) {ss : List Sl} (hi : atI ss i = some s) : IxJ X K E R (stup ss) (sv (.int i)) s :=
  ⟨rIxT K, fun n => by rw [← F.fK n]; exact ix_tup, fun Γ S σ H x y Q q r1 r2 k => by
    cases (show y = .int i from r2)
    obtain ⟨p, vs, rfl, h1, h2⟩ := r1
    obtain ⟨m, v, e1, e2, e3⟩ := atI_len h2.len.symm hi
    obtain ⟨v', e4, h4⟩ := h2.get e1
    rw [e2] at e4
    cases e4
    exact ⟨p, vs, i, v, rfl, rfl, same_t q.sub h1, e3, k v S H (Same.refl _) q h4⟩⟩
theorem ix_scr (F : Fam X P w K mg base A N) {ns : List Int} {n : Int} (hi : atI ns i = some n) : IxJ X K E R (sscr ns) (sv (.int i)) (sv (.int n)) :=
  ⟨rIxL K, fun n => by rw [← F.fK n]; exact ix_list, fun Γ S σ H x y Q q r1 r2 k => by
    cases (show y = .int i from r2)
    obtain ⟨p, rfl, h1⟩ := r1
    obtain ⟨m, v, e1, e2, e3⟩ := atI_len (xs := ns.map V.int) (by rw [List.length_map]) hi
    rw [List.getElem?_map, e1] at e2
    cases e2
    exact ⟨p, _, i, _, rfl, rfl, same_l q.sub h1, e3, k _ S H (Same.refl _) q rfl⟩⟩
theorem ix_txt {n : Nat} (hz : x.length ≤ sizeLine) (hi : atI x.cps.toList i = some n) : IxJ X K E R (sv (.str x)) (sv (.int i)) (sv (.str ⟨#[n]⟩)) :=
  ⟨rIxS, fun _ => ix_str, fun Γ S σ H v y Q q r1 r2 k => by
    cases (show v = .str x from r1)
    cases (show y = .int i from r2)
    exact ⟨x, i, n, rfl, rfl, hz, hi, k _ S H (Same.refl _) q rfl⟩⟩

/-! ### calls of built-ins -/
variable (X) (K) (E) in
def ClJ (f : Value) (R : List Res) (ss : List Sl) (s3 : Sl) : Prop := ∃ r : List V → Hp → VK → Prop, (∀ i, CallR (X i) f r) ∧ ∀ Γ S σ H vs (Q : VK), SR K E Γ R S σ H → All2 (fun (s : Sl) v => s.r K S v) ss vs → Kont K E Γ R σ S s3 Q → r vs H Q
variable (X) (K) (E) in
def ClN {ν : Type} (f : Value) (R : List Res) (ss : List Sl) (R' : ν → List Res) (s3 : ν → Sl) : Prop := ∃ r : List V → Hp → VK → Prop, (∀ i, CallR (X i) f r) ∧ ∀ Γ S σ H vs (Q : VK), SR K E Γ R S σ H → All2 (fun (s : Sl) v => s.r K S v) ss vs → (∀ n, Kont K E Γ (R' n) σ S (s3 n) Q) → r vs H Q
variable {p' : Pos}
theorem ev_callB {id : String} {f : Str} {ss : List Sl} (F : Fam X P w K mg base A N) (hm : mg f = none) (hv : bootBuiltins f = some (.builtin id)) (ha : ArJ X K E Γ R (e :: es) R1 ss) (hc : ClJ X K E (.builtin id) R1 ss s)
    (hg : ∀ i, Gl (X i) f := by exact fun _ => rfl) (he : ∀ i, starEach (e :: es) (X i).env = (false, eval e (X i).env) :: starEach es (X i).env := by exact fun _ => rfl) (hpl : ∀ i, (backTo pos (starEach es (X i).env)).any (·.1) = false := by exact fun _ => rfl) (hn : f ≠ "__name__" := by decide) (hdb : (f == ("__debug__" : Str)) = false := by decide) :
    EvJ X K E Γ R (.Call (.Name f p') (e :: es) [] pos) R1 s := by
  obtain ⟨t, a1, a2⟩ := ha
  obtain ⟨r, o1, o2⟩ := hc
  exact ⟨tCB r t, fun i => pe_callB (o1 i) (hg i) (by rw [F.fmg i]; exact hm) hv (a1 i) hn hdb (he i) (hpl i), fun S σ H Q q k => a2 S σ H _ q fun vs S1 H1 e1 q1 r1 => o2 Γ S1 σ H1 vs Q q1 r1 fun v S2 H2 e2 q2 r2 => k v S2 H2 (e1.trans e2) q2 r2⟩
theorem ev_callT {T : String} {f : Str} {ss : List Sl} (F : Fam X P w K mg base A N) (hm : mg f = none) (hv : bootBuiltins f = some (.type T)) (ha : ArJ X K E Γ R (e :: es) R1 ss) (hc : ClJ X K E (.type T) R1 ss s)
    (hg : ∀ i, Gl (X i) f := by exact fun _ => rfl) (he : ∀ i, starEach (e :: es) (X i).env = (false, eval e (X i).env) :: starEach es (X i).env := by exact fun _ => rfl) (hpl : ∀ i, (backTo pos (starEach es (X i).env)).any (·.1) = false := by exact fun _ => rfl) (hn : f ≠ "__name__" := by decide) (hdb : (f == ("__debug__" : Str)) = false := by decide) :
    EvJ X K E Γ R (.Call (.Name f p') (e :: es) [] pos) R1 s := by
  obtain ⟨t, a1, a2⟩ := ha
  obtain ⟨r, o1, o2⟩ := hc
  exact ⟨tCB r t, fun i => pe_callTy (o1 i) (hg i) (by rw [F.fmg i]; exact hm) hv (a1 i) hn hdb (he i) (hpl i), fun S σ H Q q k => a2 S σ H _ q fun vs S1 H1 e1 q1 r1 => o2 Γ S1 σ H1 vs Q q1 r1 fun v S2 H2 e2 q2 r2 => k v S2 H2 (e1.trans e2) q2 r2⟩
theorem ev_callTN {ν : Type} {R' : ν → List Res} {s3 : ν → Sl} {T : String} {f : Str} {ss : List Sl} (F : Fam X P w K mg base A N) (hm : mg f = none) (hv : bootBuiltins f = some (.type T)) (ha : ArJ X K E Γ R (e :: es) R1 ss) (hc : ClN X K E (.type T) R1 ss R' s3)
    (hg : ∀ i, Gl (X i) f := by exact fun _ => rfl) (he : ∀ i, starEach (e :: es) (X i).env = (false, eval e (X i).env) :: starEach es (X i).env := by exact fun _ => rfl) (hpl : ∀ i, (backTo pos (starEach es (X i).env)).any (·.1) = false := by exact fun _ => rfl) (hn : f ≠ "__name__" := by decide) (hdb : (f == ("__debug__" : Str)) = false := by decide) :
    EvN X K E Γ R (.Call (.Name f p') (e :: es) [] pos) R' s3 := by
  obtain ⟨t, a1, a2⟩ := ha
  obtain ⟨r, o1, o2⟩ := hc
  exact ⟨tCB r t, fun i => pe_callTy (o1 i) (hg i) (by rw [F.fmg i]; exact hm) hv (a1 i) hn hdb (he i) (hpl i), fun S σ H Q q k => a2 S σ H _ q fun vs S1 H1 e1 q1 r1 => o2 Γ S1 σ H1 vs Q q1 r1 fun n v S2 H2 e2 q2 r2 => k n v S2 H2 (e1.trans e2) q2 r2⟩
theorem ev_callBN {ν : Type} {R' : ν → List Res} {s3 : ν → Sl} {id : String} {f : Str} {ss : List Sl} (F : Fam X P w K mg base A N) (hm : mg f = none) (hv : bootBuiltins f = some (.builtin id)) (ha : ArJ X K E Γ R (e :: es) R1 ss) (hc : ClN X K E (.builtin id) R1 ss R' s3)
    (hg : ∀ i, Gl (X i) f := by exact fun _ => rfl) (he : ∀ i, starEach (e :: es) (X i).env = (false, eval e (X i).env) :: starEach es (X i).env := by exact fun _ => rfl) (hpl : ∀ i, (backTo pos (starEach es (X i).env)).any (·.1) = false := by exact fun _ => rfl) (hn : f ≠ "__name__" := by decide) (hdb : (f == ("__debug__" : Str)) = false := by decide) :
    EvN X K E Γ R (.Call (.Name f p') (e :: es) [] pos) R' s3 := by
  obtain ⟨t, a1, a2⟩ := ha
  obtain ⟨r, o1, o2⟩ := hc
  exact ⟨tCB r t, fun i => pe_callB (o1 i) (hg i) (by rw [F.fmg i]; exact hm) hv (a1 i) hn hdb (he i) (hpl i), fun S σ H Q q k => a2 S σ H _ q fun vs S1 H1 e1 q1 r1 => o2 Γ S1 σ H1 vs Q q1 r1 fun n v S2 H2 e2 q2 r2 => k n v S2 H2 (e1.trans e2) q2 r2⟩
theorem all2_one {S : Hp} {vs : List V} (h : All2 (fun (s : Sl) v => s.r K S v) [s] vs) : ∃ v, vs = [v] ∧ s.r K S v := by
  cases h with
  | cons a b => cases b; exact ⟨_, rfl, a⟩
theorem all2_two {S : Hp} {vs : List V} (h : All2 (fun (s : Sl) v => s.r K S v) [s1, s2] vs) : ∃ v u, vs = [v, u] ∧ s1.r K S v ∧ s2.r K S u := by
  cases h with
  | cons a b =>
    cases b with
    | cons c d => cases d; exact ⟨_, _, rfl, a, c⟩
theorem cl_len (F : Fam X P w K mg base A N) {ds : List PyData} (h : LV K R s1 ds) : ClJ X K E (.builtin "len") R [s1] (sv (.int ds.length)) :=
  ⟨fun xs H Q => ∃ x n, xs = [x] ∧ LenV K x H n ∧ Q (.int n) H, fun n => by rw [← F.fK n]; exact call_len, fun Γ S σ H vs Q q r k => by
    obtain ⟨v, rfl, r1⟩ := all2_one r
    obtain ⟨p, us, rfl, h1, h2⟩ := h E Γ S σ H v q r1
    exact ⟨_, ds.length, rfl, .inl ⟨us, SqL.of h1, (daAll_len h2).symm⟩, k _ S H (Same.refl _) q rfl⟩⟩
theorem cl_lenT (F : Fam X P w K mg base A N) {ds : List PyData} (h : TV K R s1 ds) : ClJ X K E (.builtin "len") R [s1] (sv (.int ds.length)) :=
  ⟨fun xs H Q => ∃ x n, xs = [x] ∧ LenV K x H n ∧ Q (.int n) H, fun n => by rw [← F.fK n]; exact call_len, fun Γ S σ H vs Q q r k => by
    obtain ⟨v, rfl, r1⟩ := all2_one r
    obtain ⟨p, us, rfl, h1, h2⟩ := h E Γ S σ H v q r1
    exact ⟨_, ds.length, rfl, .inr ⟨us, same_t q.sub h1, (daAll_len h2).symm⟩, k _ S H (Same.refl _) q rfl⟩⟩
theorem cl_lenR (F : Fam X P w K mg base A N) {ns : List Int} : ClJ X K E (.builtin "len") R [sscr ns] (sv (.int ns.length)) :=
  ⟨fun xs H Q => ∃ x n, xs = [x] ∧ LenV K x H n ∧ Q (.int n) H, fun n => by rw [← F.fK n]; exact call_len, fun Γ S σ H vs Q q r k => by
    obtain ⟨v, rfl, r1⟩ := all2_one r
    obtain ⟨p, rfl, h1⟩ := r1
    exact ⟨_, ns.length, rfl, .inl ⟨_, same_l q.sub h1, by rw [List.length_map]⟩, k _ S H (Same.refl _) q rfl⟩⟩
theorem cl_lenS (h : x.length ≤ sizeLine) : ClJ X K E (.builtin "len") R [sv (.str x)] (sv (.int x.length)) :=
  ⟨_, fun _ => call_len_str, fun Γ S σ H vs Q q r k => by
    obtain ⟨v, rfl, r1⟩ := all2_one r
    cases (show v = .str x from r1)
    exact ⟨x, rfl, h, k _ S H (Same.refl _) q rfl⟩⟩
end
end SL

/-! blocks, loops, defs -/
namespace SL
open PySem PySem.Spec PyProof.Rows L2
section
variable {ι : Type} {X : ι → Cx} {K : PySem.W.Frag} {E : Ent} {B : Hp} {Γ Γ' : Slots} {R R' R1 R2' R3 : List Res} {a b c e : Expr} {es : List Expr} {pos : Pos} {s s1 s2 s3 : Sl}
  {P : Program} {w : World} {mg : Str → Option Value} {base : Heap} {A : Around} {N : List Str} {st : Stmt} {rest sts : List Stmt} {D : Ends}
variable (X) (K) (E) in
/-- a block, from a state whose lasting part holds B -/
def Blk (B : Hp) (Γ : Slots) (R : List Res) (sts : List Stmt) (D : Ends) : Prop :=
  ∃ t : TS, (∀ i, PSs (X i) sts t) ∧ ∀ S σ H, Same B S → SR K E Γ R S σ H → t D σ H
/-- such a state -/
def Pst (K : PySem.W.Frag) (E : Ent) (B : Hp) (Γ : Slots) (R : List Res) : L2.St → Hp → Prop := fun σ H => ∃ S, Same B S ∧ SR K E Γ R S σ H
theorem blk_nil (h : ∀ S σ H, Same B S → SR K E Γ R S σ H → D.nx σ H) : Blk X K E B Γ R [] D := ⟨tNext, fun _ => pss_nil, h⟩
theorem blk_end (hw : ∀ S σ H, SR K E Γ R S σ H → SR K E Γ' R' S σ H) (hD : D.nx = Pst K E B Γ' R') : Blk X K E B Γ R [] D := blk_nil fun S σ H b q => by rw [hD]; exact ⟨S, b, hw S σ H q⟩
theorem pss_of_never {Y : Cx} : PSs Y sts (fun _ _ _ => False) := ⟨fun _ _ _ _ _ _ h => h.elim⟩
/-- many blocks, one of them -/
theorem blk_union {ν : Type} (h : ∀ n : ν, ∃ t : TS, (∀ i, PSs (X i) sts t)) (Z : ν → TS → L2.St → Hp → Prop) : True := trivial
theorem pss_any {Y : Cx} {ν : Type} {u : ν → TS} (h : ∀ n, PSs Y sts (u n)) : PSs Y sts (fun D σ H => ∃ n, u n D σ H) := ⟨fun pins s σ H D I ⟨n, q⟩ => (h n).run pins s σ H D I q⟩

/-! ### assignments -/
theorem blk_asg (F : Fam X P w K mg base A N) (k : Nat) {x : Str} {pos' : Pos} (he : EvJ X K E Γ R e R1 s) (hr : Blk X K E B (Γ.set k (some s)) R1 rest D) (hi : N[k]? = some x := by rfl) (hx : ∀ i, Loc (X i).env.scope x := by first | exact fun _ => Or.inl rfl | exact fun _ => Or.inr rfl)
    (hs : ∀ i, swapsWith e (some (.Name x pos')) pos.line (X i).env = pure false := by exact fun _ => rfl) (hf : ∀ i, (X i).fn x = true ∨ (X i).env.scope.names.lookup x = some .local := by first | exact fun _ => Or.inl rfl | exact fun _ => Or.inr rfl) : Blk X K E B Γ R (.Assign [.Name x pos'] e pos :: rest) D := by
  obtain ⟨t, h1, h2⟩ := he
  obtain ⟨u, g1, g2⟩ := hr
  refine ⟨tSeq (tAsg t (gName k)) u, fun i => pss_cons (ps_set (by rw [F.fN i]; exact F.nd) (by rw [F.fN i]; exact hi) (hx i) (h1 i) (hs i) (hf i)) (g1 i), fun S σ H b q => ?_⟩
  exact h2 S σ H _ q fun v S1 H1 e1 q1 r1 => g2 S1 _ H1 (b.trans e1) (q1.setSlot k r1)
theorem blk_asgN {ν : Type} {Rn : ν → List Res} {sn : ν → Sl} (F : Fam X P w K mg base A N) (k : Nat) {x : Str} {pos' : Pos} (he : EvN X K E Γ R e Rn sn)
    (hr : ∀ n, Blk X K E B (Γ.set k (some (sn n))) (Rn n) rest D) (hi : N[k]? = some x := by rfl) (hx : ∀ i, Loc (X i).env.scope x := by first | exact fun _ => Or.inl rfl | exact fun _ => Or.inr rfl)
    (hs : ∀ i, swapsWith e (some (.Name x pos')) pos.line (X i).env = pure false := by exact fun _ => rfl) (hf : ∀ i, (X i).fn x = true ∨ (X i).env.scope.names.lookup x = some .local := by first | exact fun _ => Or.inl rfl | exact fun _ => Or.inr rfl) : Blk X K E B Γ R (.Assign [.Name x pos'] e pos :: rest) D := by
  obtain ⟨t, h1, h2⟩ := he
  have hr' := fun n => Classical.choose_spec (hr n)
  refine ⟨tSeq (tAsg t (gName k)) _, fun i => pss_cons (ps_set (by rw [F.fN i]; exact F.nd) (by rw [F.fN i]; exact hi) (hx i) (h1 i) (hs i) (hf i)) (pss_any fun n => (hr' n).1 i), fun S σ H b q => ?_⟩
  exact h2 S σ H _ q fun n v S1 H1 e1 q1 r1 => ⟨n, (hr' n).2 S1 _ H1 (b.trans e1) (q1.setSlot k r1)⟩

/-! ### return -/
theorem blk_ret (he : EvJ X K E Γ R e R1 s) (h : ∀ S σ H v, SR K E Γ R1 S σ H → s.r K S v → D.rt v H) : Blk X K E B Γ R (.Return (some e) pos :: rest) D := by
  obtain ⟨t, h1, h2⟩ := he
  exact ⟨tSeq (tRet t) _, fun i => pss_cons (ps_ret (h1 i)) pss_of_never, fun S σ H b q => h2 S σ H _ q fun v S1 H1 e1 q1 r1 => h S1 σ H1 v q1 r1⟩
theorem blk_retN {ν : Type} {Rn : ν → List Res} {sn : ν → Sl} (he : EvN X K E Γ R e Rn sn) (h : ∀ n S σ H v, SR K E Γ (Rn n) S σ H → (sn n).r K S v → D.rt v H) : Blk X K E B Γ R (.Return (some e) pos :: rest) D := by
  obtain ⟨t, h1, h2⟩ := he
  exact ⟨tSeq (tRet t) _, fun i => pss_cons (ps_ret (h1 i)) pss_of_never, fun S σ H b q => h2 S σ H _ q fun n v S1 H1 e1 q1 r1 => h n S1 σ H1 v q1 r1⟩
theorem blk_ret0 (h : ∀ S σ H, SR K E Γ R S σ H → D.rt .non H) : Blk X K E B Γ R (.Return none pos :: rest) D :=
  ⟨tSeq tRetN _, fun i => pss_cons ps_retN pss_of_never, fun S σ H b q => h S σ H q⟩
/-- an expression alone -/
theorem blk_expr (he : EvJ X K E Γ R e R1 s) (hr : Blk X K E B Γ R1 rest D) (hs : ∀ i, swapsWith e none pos.line (X i).env = pure false := by exact fun _ => rfl) : Blk X K E B Γ R (.Expr e pos :: rest) D := by
  obtain ⟨t, h1, h2⟩ := he
  obtain ⟨u, g1, g2⟩ := hr
  exact ⟨tSeq (tDrop t) u, fun i => pss_cons (ps_expr (h1 i) (hs i)) (g1 i), fun S σ H b q => h2 S σ H _ q fun v S1 H1 e1 q1 r1 => g2 S1 σ H1 (b.trans e1) q1⟩
theorem blk_doc {x : Str} {j : Nat} {pos' : Pos} (hr : Blk X K E B Γ R rest D) : Blk X K E B Γ R (.Expr (.Constant (.str x) j pos) pos' :: rest) D :=
  let ⟨u, g1, g2⟩ := hr; ⟨tSeq tNext u, fun i => pss_cons ps_doc (g1 i), fun S σ H b q => g2 S σ H b q⟩

/-! ### if -/
/-- the body leaves -/
theorem blk_ifRet {bd : List Stmt} {k : Bool} (hc : TeJ X K E Γ R c k) (ha : k = true → Blk X K E B Γ R bd { nx := fun _ _ => False, rt := D.rt, bk := D.bk, ct := D.ct }) (hr : k = false → Blk X K E B Γ R rest D) : Blk X K E B Γ R (.If c bd [] pos :: rest) D := by
  obtain ⟨tc, c1, c2⟩ := hc
  cases k with
  | true =>
    obtain ⟨t, h1, h2⟩ := ha rfl
    exact ⟨tSeq (tIfS tc t tNext) (fun _ _ _ => False), fun i => pss_cons (ps_if (c1 i) (h1 i) pss_nil) pss_of_never, fun S σ H b q => c2 S σ H _ q fun S1 H1 e1 q1 => iteT (h2 S1 σ H1 (b.trans e1) q1)⟩
  | false =>
    obtain ⟨t, h1, h2⟩ := hr rfl
    exact ⟨tSeq (tIfS tc (fun _ _ _ => False) tNext) t, fun i => pss_cons (ps_if (c1 i) pss_of_never pss_nil) (h1 i), fun S σ H b q => c2 S σ H _ q fun S1 H1 e1 q1 => iteF (h2 S1 σ H1 (b.trans e1) q1)⟩
/-- both ways meet in a state -/
theorem blk_if {bd be : List Stmt} {k : Bool} (Γ' : Slots) (R' : List Res) (hc : TeJ X K E Γ R c k) (ha : k = true → Blk X K E B Γ R bd { nx := Pst K E B Γ' R', rt := D.rt, bk := D.bk, ct := D.ct })
    (hb : k = false → Blk X K E B Γ R be { nx := Pst K E B Γ' R', rt := D.rt, bk := D.bk, ct := D.ct }) (hr : Blk X K E B Γ' R' rest D) : Blk X K E B Γ R (.If c bd be pos :: rest) D := by
  obtain ⟨tc, c1, c2⟩ := hc
  obtain ⟨u, g1, g2⟩ := hr
  cases k with
  | true =>
    obtain ⟨t, h1, h2⟩ := ha rfl
    exact ⟨Evl.tCut (tIfS tc t (fun _ _ _ => False)) u, fun i => Evl.pss_cut (ps_if (c1 i) (h1 i) pss_of_never) (g1 i), fun S σ H b q => ⟨Pst K E B Γ' R', c2 S σ H _ q fun S1 H1 e1 q1 => iteT (h2 S1 σ H1 (b.trans e1) q1), fun σ' H' ⟨S2, e2, q2⟩ => g2 S2 σ' H' e2 q2⟩⟩
  | false =>
    obtain ⟨t, h1, h2⟩ := hb rfl
    exact ⟨Evl.tCut (tIfS tc (fun _ _ _ => False) t) u, fun i => Evl.pss_cut (ps_if (c1 i) pss_of_never (h1 i)) (g1 i), fun S σ H b q => ⟨Pst K E B Γ' R', c2 S σ H _ q fun S1 H1 e1 q1 => iteF (h2 S1 σ H1 (b.trans e1) q1), fun σ' H' ⟨S2, e2, q2⟩ => g2 S2 σ' H' e2 q2⟩⟩
/-- an if at the end of a block: both ways go on to what is wanted -/
theorem blk_ifEnd {bd be : List Stmt} {k : Bool} (hc : TeJ X K E Γ R c k) (ha : k = true → Blk X K E B Γ R bd D) (hb : k = false → Blk X K E B Γ R be D) : Blk X K E B Γ R [.If c bd be pos] D := by
  obtain ⟨tc, c1, c2⟩ := hc
  cases k with
  | true =>
    obtain ⟨t, h1, h2⟩ := ha rfl
    exact ⟨tIfS tc t (fun _ _ _ => False), fun i => pss_one (ps_if (c1 i) (h1 i) pss_of_never), fun S σ H b q => c2 S σ H _ q fun S1 H1 e1 q1 => iteT (h2 S1 σ H1 (b.trans e1) q1)⟩
  | false =>
    obtain ⟨t, h1, h2⟩ := hb rfl
    exact ⟨tIfS tc (fun _ _ _ => False) t, fun i => pss_one (ps_if (c1 i) pss_of_never (h1 i)), fun S σ H b q => c2 S σ H _ q fun S1 H1 e1 q1 => iteF (h2 S1 σ H1 (b.trans e1) q1)⟩

/-! ### targets -/
/-- the slots behind target = something of which it y is said -/
def TgA {α : Type} (X : ι → Cx) (K : PySem.W.Frag) (E : Ent) (tg : Expr) (it : α → Sl) (up : α → Slots → Slots) (ups : List Nat) : Prop :=
  ∃ g : TG, (∀ i, PG (X i) tg g) ∧ (∀ y Γ R S σ H v (Q : L2.St → Hp → Prop), SR K E Γ R S σ H → (it y).r K S v → (∀ σ', SR K E (up y Γ) R S σ' H → (∀ j, j ∉ ups → σ'[j]? = σ[j]?) → σ'.length = σ.length → Q σ' H) → g v σ H Q)
theorem set_other {α : Type} {l : List α} {k j : Nat} {x : α} (h : j ∉ [k]) : (l.set k x)[j]? = l[j]? := List.getElem?_set_ne (fun e => h (by simp [e]))
theorem tg_name {α : Type} {it : α → Sl} (F : Fam X P w K mg base A N) (k : Nat) {x : Str} (hi : N[k]? = some x := by rfl) (hx : ∀ i, Loc (X i).env.scope x := by first | exact fun _ => Or.inl rfl | exact fun _ => Or.inr rfl)
    (hf : ∀ i, (X i).fn x = true ∨ (X i).env.scope.names.lookup x = some .local := by first | exact fun _ => Or.inl rfl | exact fun _ => Or.inr rfl) : TgA X K E (.Name x pos) it (fun y Γ => Γ.set k (some (it y))) [k] :=
  ⟨gName k, fun i => pg_name (by rw [F.fN i]; exact F.nd) (by rw [F.fN i]; exact hi) (hx i) (hf i), fun y Γ R S σ H v Q q r h => h _ (q.setSlot k r) (fun j hj => set_other hj) List.length_set⟩
/-- several targets -/
def TgsA {α : Type} (X : ι → Cx) (K : PySem.W.Frag) (E : Ent) (tgs : List Expr) (its : α → List Sl) (n : Nat) (up : α → Slots → Slots) (ups : List Nat) : Prop :=
  (∀ y, (its y).length = n) ∧ ∃ g : TGs, (∀ i, PGs (X i) tgs g) ∧ (∀ y Γ R S σ H vs (Q : L2.St → Hp → Prop), SR K E Γ R S σ H → All2 (fun (s : Sl) v => s.r K S v) (its y) vs → (∀ σ', SR K E (up y Γ) R S σ' H → (∀ j, j ∉ ups → σ'[j]? = σ[j]?) → σ'.length = σ.length → Q σ' H) → g vs σ H Q)
theorem tgs_nil {α : Type} : TgsA (α := α) X K E [] (fun _ => []) 0 (fun _ Γ => Γ) [] :=
  ⟨fun _ => rfl, gNil, fun _ => pgs_nil, fun y Γ R S σ H vs Q q r h => by
    cases r
    exact ⟨rfl, h σ q (fun _ _ => rfl) rfl⟩⟩
theorem tgs_cons {α : Type} {it : α → Sl} {its : α → List Sl} {up up' : α → Slots → Slots} {u1 u2 : List Nat} {n : Nat} {tg : Expr} {tgs : List Expr} (h1 : TgA X K E tg it up u1) (h2 : TgsA X K E tgs its n up' u2)
    (hs : ∀ i, (assignEach (tg :: tgs) (X i).env).map (·.2) = assign tg (X i).env :: (assignEach tgs (X i).env).map (·.2) := by exact fun _ => rfl) : TgsA X K E (tg :: tgs) (fun y => it y :: its y) (n + 1) (fun y Γ => up' y (up y Γ)) (u1 ++ u2) := by
  obtain ⟨g, a1, a2⟩ := h1
  obtain ⟨b0, gs, b1, b2⟩ := h2
  refine ⟨fun y => by rw [List.length_cons, b0 y], gCons g gs, fun i => pgs_cons (a1 i) (b1 i) (hs i), fun y Γ R S σ H vs Q q r h => ?_⟩
  cases r with
  | cons r rr =>
    refine ⟨_, _, rfl, a2 y Γ R S σ H _ _ q r fun σ1 q1 o1 l1 => b2 y _ R S σ1 H _ _ q1 rr fun σ2 q2 o2 l2 => h σ2 q2 (fun j hj => ?_) (l2.trans l1)⟩
    rw [o2 j fun z => hj (List.mem_append_right _ z), o1 j fun z => hj (List.mem_append_left _ z)]
theorem tg_tup {α : Type} {its : α → List Sl} {up : α → Slots → Slots} {us : List Nat} {tgs : List Expr} {k n : Nat} (F : Fam X P w K mg base A N) (h : TgsA X K E tgs its n up us) (hn : ∀ i, (assignEach tgs (X i).env).length = n := by exact fun _ => rfl)
    (hst : ∀ i, (assignEach tgs (X i).env).findIdx? (·.1) = none := by exact fun _ => rfl) (hcm : ∀ i, (X i).calm = true := by exact fun _ => rfl) : TgA X K E (.Tuple tgs k pos) (fun y => stup (its y)) up us := by
  obtain ⟨hl, g, a1, a2⟩ := h
  refine ⟨gTup K n g, fun i => by rw [← F.fK i]; exact pg_tup (hcm i) (a1 i) (hn i) (hst i), fun y Γ R S σ H v Q q r h => ?_⟩
  obtain ⟨p, vs, e, h1, h2⟩ := r
  exact ⟨p, vs, e, same_t q.sub h1, by rw [← h2.len, hl y], a2 y Γ R S σ H vs Q q h2 h⟩
theorem tg_is {α : Type} {it it' : α → Sl} {up : α → Slots → Slots} {us : List Nat} {tg : Expr} (h : TgA X K E tg it up us) (hs : ∀ y S v, (it' y).r K S v → (it y).r K S v) : TgA X K E tg it' up us :=
  let ⟨g, a1, a2⟩ := h; ⟨g, a1, fun y Γ R S σ H v Q q r => a2 y Γ R S σ H v Q q (hs y S v r)⟩
/-- a tuple of data is a tuple of what is said of its items -/
theorem daAll_sl {S : Hp} : ∀ {vs : List V} {ds : List PyData}, DaAll K S vs ds → All2 (fun (s : Sl) v => s.r K S v) (ds.map sl) vs
  | _, _, .nil => .nil
  | _, _, .cons h t => .cons (sl_da.mpr h) (daAll_sl t)
theorem tup_sl {S : Hp} {v : V} {ds : List PyData} (h : (sd (.tuple ds)).r K S v) : (stup (ds.map sl)).r K S v := by
  cases h with
  | tup h1 h2 => exact ⟨_, _, rfl, h1, daAll_sl h2⟩

/-- (a, b, ..) = e -/
theorem blk_unpack {tg : Expr} {up : Unit → Slots → Slots} {us : List Nat} (F : Fam X P w K mg base A N) (he : EvJ X K E Γ R e R1 s) (ht : TgA X K E tg (fun _ : Unit => s) up us) (hr : Blk X K E B (up () Γ) R1 rest D)
    (hs : ∀ i, swapsWithSole [tg] e pos.line (X i).env = pure false := by exact fun _ => rfl) (hw : ∀ i, swappedStores [tg] e (X i).env = pure none := by exact fun _ => rfl) (h1 : ∀ i, (assignEach [tg] (X i).env).map (·.2) = [assign tg (X i).env] := by exact fun _ => rfl) :
    Blk X K E B Γ R (.Assign [tg] e pos :: rest) D := by
  obtain ⟨t, a1, a2⟩ := he
  obtain ⟨g, b1, b2⟩ := ht
  obtain ⟨u, c1, c2⟩ := hr
  exact ⟨tSeq (tAsg t g) u, fun i => pss_cons (ps_asg (a1 i) (b1 i) (hs i) (hw i) (h1 i)) (c1 i), fun S σ H b q => a2 S σ H _ q fun v S1 H1 e1 q1 r1 => b2 () Γ R1 S1 σ H1 v _ q1 r1 fun σ' q' _ _ => c2 S1 σ' H1 (b.trans e1) q'⟩

/-! ### what is walked -/
/-- iter gives, turn by turn, things of which items is said; hC: what has to stay of what is one's own -/
def ItJ (X : ι → Cx) (K : PySem.W.Frag) (E : Ent) (Γ : Slots) (R : List Res) (tg iter : Expr) (R1 : List Res) (items : List Sl) (C : List Res → Prop) : Prop :=
  ∃ wi : TI, (∀ i, PI (X i) tg iter wi) ∧ ∀ S σ H (Rk : It → Hp → Prop), SR K E Γ R S σ H →
    (∀ J S1 H1, Same S S1 → SR K E Γ R1 S1 σ H1 →
      (∀ (n : Nat) Γ' R' S' σ' H', Same S1 S' → SR K E Γ' R' S' σ' H' → C R' →
        (∀ s, items[n]? = some s → J.go n H' ∧ ∀ x H'', J.yld n H' x H'' → ∃ S'', Same S' S'' ∧ SR K E Γ' R' S'' σ' H'' ∧ s.r K S'' x) ∧ (items.length ≤ n → J.stop n H')) → Rk J H1) → wi σ H Rk
abbrev CAny : List Res → Prop := fun _ => True
theorem it_list (F : Fam X P w K mg base A N) {tg : Expr} {ds : List PyData} (h : EvJ X K E Γ R e R1 (sd (.list ds))) : ItJ X K E Γ R tg e R1 (ds.map sl) CAny := by
  obtain ⟨t, a1, a2⟩ := h
  refine ⟨iList K t, fun i => by rw [← F.fK i]; exact pi_list (a1 i), fun S σ H Rk q k => a2 S σ H _ q fun v S1 H1 e1 q1 r1 => ?_⟩
  obtain ⟨p, vs, rfl, h1, h2⟩ := lv_d E Γ S1 σ H1 v q1 r1
  have sp : S1 p = some (.lst vs) := by
    cases r1 with
    | lst z _ => rw [q1.sub _ _ z] at h1; rw [← h1]; exact z
  refine ⟨p, rfl, ⟨vs, SqL.of h1⟩, k _ S1 H1 e1 q1 fun n Γ' R' S' σ' H' e' q' _ => ⟨fun s hs => ?_, fun hn => ⟨vs, SqL.of (q'.sub _ _ (e' _ _ sp)), by rw [List.length_map] at hn; rw [daAll_len h2]; exact hn⟩⟩⟩
  rw [List.getElem?_map] at hs
  cases e2 : ds[n]? with
  | none => rw [e2] at hs; cases hs
  | some d =>
    rw [e2] at hs
    cases hs
    obtain ⟨x, hx, hd⟩ := daAll_get' h2 e2
    refine ⟨⟨vs, x, SqL.of (q'.sub _ _ (e' _ _ sp)), hx⟩, fun y H'' hy => ?_⟩
    obtain ⟨rfl, hy⟩ := hy
    have := hy vs (SqL.of (q'.sub _ _ (e' _ _ sp)))
    rw [hx] at this
    cases this
    exact ⟨S', Same.refl _, q', sl_da.mpr (da_same e' hd)⟩
/-- one's own list that stays as it is -/
theorem it_mine (F : Fam X P w K mg base A N) {tg : Expr} {p : Addr} {ds : List PyData} (h : EvJ X K E Γ R e R1 (sv (.ref p))) (m : Nat) (hm : R1[m]? = some (rL p ds)) : ItJ X K E Γ R tg e R1 (ds.map sl) (fun R' => R'[m]? = some (rL p ds)) := by
  obtain ⟨t, a1, a2⟩ := h
  refine ⟨iList K t, fun i => by rw [← F.fK i]; exact pi_list (a1 i), fun S σ H Rk q k => a2 S σ H _ q fun v S1 H1 e1 q1 r1 => ?_⟩
  cases (show v = .ref p from r1)
  obtain ⟨p', vs, e0, h1, h2⟩ := lv_o m hm E Γ S1 σ H1 _ q1 rfl
  cases e0
  refine ⟨p, rfl, ⟨vs, SqL.of h1⟩, k _ S1 H1 e1 q1 fun n Γ' R' S' σ' H' e' q' hC => ?_⟩
  obtain ⟨p', us, e0, g1, g2⟩ := lv_o m hC E Γ' S' σ' H' _ q' rfl
  cases e0
  refine ⟨fun s hs => ?_, fun hn => ⟨us, SqL.of g1, by rw [List.length_map] at hn; rw [daAll_len g2]; exact hn⟩⟩
  rw [List.getElem?_map] at hs
  cases e2 : ds[n]? with
  | none => rw [e2] at hs; cases hs
  | some d =>
    rw [e2] at hs
    cases hs
    obtain ⟨x, hx, hd⟩ := daAll_get' g2 e2
    refine ⟨⟨us, x, SqL.of g1, hx⟩, fun y H'' hy => ?_⟩
    obtain ⟨rfl, hy⟩ := hy
    have := hy us (SqL.of g1)
    rw [hx] at this
    cases this
    exact ⟨S', Same.refl _, q', sl_da.mpr hd⟩
end
end SL

/-! more that is walked; loops; comprehensions -/
namespace SL
open PySem PySem.Spec PyProof.Rows L2
section
variable {ι : Type} {X : ι → Cx} {K : PySem.W.Frag} {E : Ent} {B : Hp} {Γ Γ' : Slots} {R R' R1 R2' R3 : List Res} {a b c e : Expr} {es : List Expr} {pos : Pos} {s s1 s2 s3 : Sl}
  {P : Program} {w : World} {mg : Str → Option Value} {base : Heap} {A : Around} {N : List Str} {st : Stmt} {rest sts : List Stmt} {D : Ends} {S S' H H' : Hp} {σ σ' : L2.St}

/-! ### changes of what is one's own -/
theorem all2_split {α β : Type} {F : α → β → Prop} : ∀ {as : List α} {bs : List β} {k : Nat} {a : α}, All2 F as bs → as[k]? = some a → ∃ b, bs[k]? = some b ∧ F a b ∧ ∀ b' (G : α → β → Prop) a', G a' b' → (∀ j x y, j ≠ k → as[j]? = some x → bs[j]? = some y → F x y → G x y) → All2 G (as.set k a') (bs.set k b')
  | _, _, _, _, .nil, e => by simp at e
  | _, _, 0, _, .cons (as := as) (bs := bs) h t, e => by
    simp at e
    subst e
    refine ⟨_, rfl, h, fun b' G a' g hk => .cons g ?_⟩
    have : ∀ (as : List _) (bs : List _), All2 F as bs → (∀ (j : Nat) x y, as[j]? = some x → bs[j]? = some y → F x y → G x y) → All2 G as bs := fun as bs h hh => by
      induction h with
      | nil => exact .nil
      | cons p _ ih => exact .cons (hh 0 _ _ rfl rfl p) (ih fun j x y e1 e2 => hh (j + 1) x y e1 e2)
    exact this _ _ t fun j x y e1 e2 => hk (j + 1) x y (by omega) e1 e2
  | _, _, k + 1, a, .cons h t, e => by
    obtain ⟨b, e1, h1, h2⟩ := all2_split (k := k) (a := a) t (by simpa using e)
    exact ⟨b, e1, h1, fun b' G a' g hk => .cons (hk 0 _ _ (by omega) rfl rfl h) (h2 b' G a' g fun j x y hj e1 e2 => hk (j + 1) x y (by omega) e1 e2)⟩
theorem pairwise_get {α : Type} {P : α → α → Prop} {l : List α} (h : l.Pairwise P) (hs : ∀ a b, P a b → P b a) {i j : Nat} {x y : α} (hij : i ≠ j) (hi : l[i]? = some x) (hj : l[j]? = some y) : P x y := by
  obtain ⟨h1, e1⟩ := List.getElem?_eq_some_iff.mp hi
  obtain ⟨h2, e2⟩ := List.getElem?_eq_some_iff.mp hj
  rcases Nat.lt_or_gt_of_ne hij with hlt | hlt
  · have := List.pairwise_iff_getElem.mp h i j h1 h2 hlt
    rw [e1, e2] at this
    exact this
  · have := List.pairwise_iff_getElem.mp h j i h2 h1 hlt
    rw [e1, e2] at this
    exact hs _ _ this
theorem pairwise_set {α : Type} {P : α → α → Prop} {l : List α} (hs : ∀ a b, P a b → P b a) (h : l.Pairwise P) {k : Nat} {x : α} (hx : ∀ (j : Nat) y, j ≠ k → l[j]? = some y → P y x) : (l.set k x).Pairwise P := by
  rw [List.pairwise_iff_getElem] at h ⊢
  intro i j hi hj hij
  rw [List.length_set] at hi hj
  rw [List.getElem_set, List.getElem_set]
  by_cases e1 : k = i
  · subst e1
    have : ¬ k = j := by omega
    simp only [if_neg this]
    exact hs _ _ (hx j _ (by omega) (List.getElem?_eq_getElem hj))
  · by_cases e2 : k = j
    · subst e2
      simp only [if_neg e1]
      exact hx i _ (by omega) (List.getElem?_eq_getElem hi)
    · simp only [if_neg e1, if_neg e2]
      exact h i j hi hj hij
theorem disj_symm {O O' : Hp} (h : ∀ a, O a ≠ none → O' a = none) : ∀ a, O' a ≠ none → O a = none := fun a ha => by
  cases e : O a with
  | none => rfl
  | some u => exact absurd (h a (by rw [e]; exact fun z => nomatch z)) ha
/-- one cell of one's own is written -/
theorem SR.put (q : SR K E Γ R S σ H) (k : Nat) {p : Addr} {o' : HO} {ρ ρ' : Res} (hk : R[k]? = some ρ) (h1 : ∀ O, ρ.r K S O → ∃ o, O = hOne p o) (h2 : ρ'.r K S (hOne p o')) : SR K E Γ (R.set k ρ') S σ (upd H p o') := by
  obtain ⟨Os, ⟨a1, a2⟩, a3⟩ := q.own
  obtain ⟨O, e1, ⟨g1, g2, g3⟩, g4⟩ := all2_split a1 hk
  obtain ⟨o, rfl⟩ := h1 O g1
  have hp : S p = none := g3 p (by rw [hOne_same]; exact fun z => nomatch z)
  have hop := hOne_same (p := p) (o := o)
  have own_p : E.A0 p ∨ E.H0 p = none := a3 _ (List.mem_of_getElem? e1) p (by rw [hop]; exact fun z => nomatch z)
  have others : ∀ (j : Nat) O', j ≠ k → Os[j]? = some O' → O' p = none := fun j O' hj e => disj_symm (pairwise_get a2 (fun _ _ => disj_symm) hj e e1) p (by rw [hop]; exact fun z => nomatch z)
  refine ⟨same_under q.sub hp, q.ext, fun a u e n => ?_, q.new, ⟨Os.set k (hOne p o'), ⟨g4 (hOne p o') _ ρ' ⟨h2, fun a u e => ?_, fun a ha => by rw [hOne_not ha]; exact hp⟩ fun j x y hj e2 e3 ⟨b1, b2, b3⟩ => ⟨b1, same_under b2 (others j y hj e3), b3⟩, ?_⟩, fun O' hO a ha => ?_⟩, q.slots⟩
  · by_cases ha : a = p
    · subst ha
      rcases own_p with z | z
      · exact absurd z n
      · rw [z] at e; cases e
    · rw [upd_ne ha]; exact q.fr a u e n
  · obtain ⟨z1, z2⟩ := hOne_some e
    subst z1 z2
    exact upd_same
  · refine pairwise_set (fun _ _ => disj_symm) a2 fun j O' hj e a ha => ?_
    by_cases z : a = p
    · subst z; exact absurd (others j O' hj e) ha
    · exact hOne_ne z
  · rcases List.mem_or_eq_of_mem_set hO with z | z
    · exact a3 O' z a ha
    · subst z
      rw [hOne_not ha]
      exact own_p
theorem SR.putL (q : SR K E Γ R S σ H) (k : Nat) {p : Addr} {ds ds' : List PyData} {vs' : List V} (hk : R[k]? = some (rL p ds)) (h2 : DaAll K S vs' ds') : SR K E Γ (R.set k (rL p ds')) S σ (upd H p (.lst vs')) :=
  q.put k hk (fun O ⟨vs, e, _⟩ => ⟨_, e⟩) ⟨vs', rfl, h2⟩
theorem set_last {α : Type} {l : List α} {x y : α} : (l ++ [x]).set l.length y = l ++ [y] := by simp
theorem get_last {α : Type} {l : List α} {x : α} : (l ++ [x])[l.length]? = some x := by simp
/-- other slots -/
theorem SR.reslot {Γ1 : Slots} {σ1 : L2.St} (q : SR K E Γ1 R S σ1 H) (h : All2 (fun (s : Option Sl) (o : Option V) => ∀ s', s = some s' → ∃ v, o = some v ∧ s'.r K S v) Γ σ) : SR K E Γ R S σ H := ⟨q.sub, q.ext, q.fr, q.new, q.own, h⟩
theorem slots_mono {S S' : Hp} (e : Same S S') (h : All2 (fun (s : Option Sl) (o : Option V) => ∀ s', s = some s' → ∃ v, o = some v ∧ s'.r K S v) Γ σ) : All2 (fun (s : Option Sl) (o : Option V) => ∀ s', s = some s' → ∃ v, o = some v ∧ s'.r K S' v) Γ σ :=
  h.imp fun s o g s' z => let ⟨v, e1, e2⟩ := g s' z; ⟨v, e1, s'.mono e e2⟩
/-- less of what is one's own -/
theorem SR.drop (q : SR K E Γ (R ++ R') S σ H) : SR K E Γ R S σ H := by
  obtain ⟨Os, ⟨a1, a2⟩, a3⟩ := q.own
  have : ∀ (R : List Res) (Os : List Hp), All2 (fun (ρ : Res) O => ρ.r K S O ∧ Same O H ∧ ∀ a, O a ≠ none → S a = none) (R ++ R') Os → ∃ O1 O2, Os = O1 ++ O2 ∧ All2 (fun (ρ : Res) O => ρ.r K S O ∧ Same O H ∧ ∀ a, O a ≠ none → S a = none) R O1 := by
    intro R
    induction R with
    | nil => exact fun Os _ => ⟨[], Os, rfl, .nil⟩
    | cons r R ih =>
      intro Os h
      cases h with
      | cons p t =>
        obtain ⟨O1, O2, e, h⟩ := ih _ t
        subst e
        exact ⟨_ :: O1, O2, rfl, .cons p h⟩
  obtain ⟨O1, O2, rfl, h⟩ := this R Os a1
  exact ⟨q.sub, q.ext, q.fr, q.new, ⟨O1, ⟨h, (List.pairwise_append.mp a2).1⟩, fun O hO => a3 O (List.mem_append_left _ hO)⟩, q.slots⟩

/-! ### more iterables -/
variable {p' : Pos}
theorem it_range1 {j : Int} {tg : Expr} (F : Fam X P w K mg base A N) (hm : mg "range" = none) (h : EvJ X K E Γ R a R1 (sv (.int j))) (hb : -(2 ^ 62) ≤ j ∧ j < 2 ^ 62) (hg : ∀ i, Gl (X i) "range" := by exact fun _ => rfl) (hs : ∀ i, starEach [a] (X i).env = [(false, eval a (X i).env)] := by exact fun _ => rfl) :
    ItJ X K E Γ R tg (.Call (.Name "range" p') [a] [] pos) R1 ((List.range j.toNat).map fun (n : Nat) => sv (.int (n : Int))) CAny := by
  obtain ⟨t, a1, a2⟩ := ar_cons h ar_nil hs
  refine ⟨iRng1 t, fun i => pi_range1 (hg i) (by rw [F.fmg i]; exact hm) (a1 i) (hs i), fun S σ H Rk q k => a2 S σ H _ q fun vs S1 H1 e1 q1 r1 => ?_⟩
  obtain ⟨v, rfl, r2⟩ := all2_one r1
  cases (show v = .int j from r2)
  refine ⟨j, rfl, hb.1, hb.2, k _ S1 H1 e1 q1 fun n Γ' R' S' σ' H' e' q' _ => ⟨fun s hs => ?_, fun hn => by rw [List.length_map, List.length_range] at hn; exact hn⟩⟩
  rw [List.getElem?_map] at hs
  cases e2 : (List.range j.toNat)[n]? with
  | none => rw [e2] at hs; cases hs
  | some m =>
    rw [e2] at hs
    cases hs
    obtain ⟨hl, e3⟩ := List.getElem?_eq_some_iff.mp e2
    rw [List.getElem_range] at e3
    rw [List.length_range] at hl
    subst e3
    refine ⟨hl, fun x H'' ⟨e4, e5⟩ => ?_⟩
    subst e4 e5
    exact ⟨S', Same.refl _, q', by show V.int (0 + (n : Int)) = V.int (n : Int); rw [Int.zero_add]⟩
theorem it_range2 {i j : Int} {tg : Expr} (F : Fam X P w K mg base A N) (hm : mg "range" = none) (h : EvJ X K E Γ R a R1 (sv (.int i))) (h2 : EvJ X K E Γ R1 b R2' (sv (.int j)))
    (hb : -(2 ^ 62) ≤ i ∧ i < 2 ^ 62 ∧ -(2 ^ 62) ≤ j ∧ j < 2 ^ 62) (hg : ∀ i, Gl (X i) "range" := by exact fun _ => rfl) (hs : ∀ i, starEach [a, b] (X i).env = [(false, eval a (X i).env), (false, eval b (X i).env)] := by exact fun _ => rfl) (hs2 : ∀ i, starEach [b] (X i).env = [(false, eval b (X i).env)] := by exact fun _ => rfl) :
    ItJ X K E Γ R tg (.Call (.Name "range" p') [a, b] [] pos) R2' ((List.range (j - i).toNat).map fun (n : Nat) => sv (.int (i + (n : Int)))) CAny := by
  obtain ⟨t, a1, a2⟩ := ar_cons h (ar_cons h2 ar_nil hs2) (fun i => by rw [hs i, hs2 i])
  refine ⟨iRng2 t, fun i => pi_range2 (hg i) (by rw [F.fmg i]; exact hm) (a1 i) (hs i) (hs2 i), fun S σ H Rk q k => a2 S σ H _ q fun vs S1 H1 e1 q1 r1 => ?_⟩
  obtain ⟨v, u, rfl, r1, r2⟩ := all2_two r1
  cases (show v = .int i from r1)
  cases (show u = .int j from r2)
  refine ⟨i, j, rfl, hb, k _ S1 H1 e1 q1 fun n Γ' R' S' σ' H' e' q' _ => ⟨fun s hs => ?_, fun hn => by rw [List.length_map, List.length_range] at hn; exact hn⟩⟩
  rw [List.getElem?_map] at hs
  cases e2 : (List.range (j - i).toNat)[n]? with
  | none => rw [e2] at hs; cases hs
  | some m =>
    rw [e2] at hs
    cases hs
    obtain ⟨hl, e3⟩ := List.getElem?_eq_some_iff.mp e2
    rw [List.getElem_range] at e3
    rw [List.length_range] at hl
    subst e3
    refine ⟨hl, fun x H'' ⟨e4, e5⟩ => ?_⟩
    subst e4 e5
    exact ⟨S', Same.refl _, q', rfl⟩
theorem it_str {tg : Expr} {x : Str} (h : EvJ X K E Γ R e R1 (sv (.str x))) : ItJ X K E Γ R tg e R1 (x.cps.toList.map fun c => sv (.str ⟨#[c]⟩)) CAny := by
  obtain ⟨t, a1, a2⟩ := h
  refine ⟨iStr t, fun i => pi_str (a1 i), fun S σ H Rk q k => a2 S σ H _ q fun v S1 H1 e1 q1 r1 => ?_⟩
  refine ⟨x, r1, k _ S1 H1 e1 q1 fun n Γ' R' S' σ' H' e' q' _ => ⟨fun s hs => ?_, fun hn => by rw [List.length_map, Array.length_toList] at hn; exact hn⟩⟩
  rw [List.getElem?_map, Array.getElem?_toList] at hs
  cases e2 : x.cps[n]? with
  | none => rw [e2] at hs; cases hs
  | some c =>
    rw [e2] at hs
    cases hs
    refine ⟨(Array.getElem?_eq_some_iff.mp e2).1, fun y H'' ⟨e4, c', e5, e6⟩ => ?_⟩
    subst e4 e6
    rw [e2] at e5
    cases e5
    exact ⟨S', Same.refl _, q', rfl⟩

/-! ### for -/
theorem blk_for {α : Type} {tg iter : Expr} {bd : List Stmt} {C : List Res → Prop} {us : List Nat} {xs : List α} {it : α → Sl} {up : α → Slots → Slots} (G : List α → Slots) (RR : List α → List Res)
    (F : Fam X P w K mg base A N) (hp : ∀ i, PassesOwn (model (X i).prog (X i).w) (X i).A (X i).env (X i).xe) (hi : ItJ X K E Γ R tg iter R1 (xs.map it) C) (htg : TgA X K E tg it up us)
    (h0 : ∀ S σ H, SR K E Γ R1 S σ H → SR K E (G []) (RR []) S σ H) (hC : ∀ pre, C (RR pre))
    (hb : ∀ pre x post B' (Z : L2.St → Hp → Prop), xs = pre ++ x :: post → Blk X K E B' (up x (G pre)) (RR pre) bd { nx := Pst K E B' (G (pre ++ [x])) (RR (pre ++ [x])), rt := D.rt, bk := Z, ct := Pst K E B' (G (pre ++ [x])) (RR (pre ++ [x])) })
    (hr : Blk X K E B (G xs) (RR xs) rest D) (hs : ∀ i x, foldedSetIterable iter (X i).env x = pure x := by exact fun _ _ => rfl) (hcm : ∀ i, (X i).calm = true := by exact fun _ => rfl) : Blk X K E B Γ R (.For tg iter bd [] pos :: rest) D := by
  obtain ⟨wi, w1, w2⟩ := hi
  obtain ⟨g, t1, t2⟩ := htg
  obtain ⟨u, u1, u2⟩ := hr
  have hb' := fun (n : { q : List α × α × List α × Hp × (L2.St → Hp → Prop) // xs = q.1 ++ q.2.1 :: q.2.2.1 }) => Classical.choose_spec (hb n.1.1 n.1.2.1 n.1.2.2.1 n.1.2.2.2.1 n.1.2.2.2.2 n.2)
  refine ⟨tSeq (tFor wi g _) u, fun i => pss_cons (ps_for (hp i) (hcm i) (w1 i) (t1 i) (pss_any fun n => (hb' n).1 i) (hs i)) (u1 i), fun S σ H b q => ?_⟩
  refine w2 S σ H _ q fun J S1 H1 e1 q1 hJ => ?_
  refine ⟨fun n m σ H => m = xs.length - n ∧ n ≤ xs.length ∧ ∃ S', Same S1 S' ∧ SR K E (G (xs.take n)) (RR (xs.take n)) S' σ H, ⟨xs.length, by simp, Nat.zero_le _, S1, Same.refl _, h0 S1 σ H1 q1⟩, ?_⟩
  rintro n m σ2 H2 ⟨rfl, hn, S2, e2, q2⟩
  obtain ⟨g1, g2⟩ := hJ n _ _ S2 σ2 H2 e2 q2 (hC _)
  by_cases hlt : n < xs.length
  · have hx : xs[n]? = some xs[n] := List.getElem?_eq_getElem hlt
    have hsplit : xs = xs.take n ++ xs[n] :: xs.drop (n + 1) := by rw [← List.drop_eq_getElem_cons hlt, List.take_append_drop]
    have htake : xs.take (n + 1) = xs.take n ++ [xs[n]] := by rw [List.take_succ, hx]; rfl
    obtain ⟨go, hy⟩ := g1 (it xs[n]) (by rw [List.getElem?_map, hx]; rfl)
    refine .inr ⟨go, Pst K E S2 (G (xs.take n ++ [xs[n]])) (RR (xs.take n ++ [xs[n]])), fun σ' H' ⟨S', e', q'⟩ => ⟨xs.length - (n + 1), by omega, rfl, hlt, S', e2.trans e', by rw [htake]; exact q'⟩, fun x H' hx' => ?_⟩
    obtain ⟨S3, e3, q3, r3⟩ := hy x H' hx'
    refine t2 xs[n] _ _ S3 σ2 H' x _ q3 r3 fun σ4 q4 _ _ => ?_
    exact ⟨⟨(xs.take n, xs[n], xs.drop (n + 1), S2, u D), hsplit⟩, (hb' ⟨(xs.take n, xs[n], xs.drop (n + 1), S2, u D), hsplit⟩).2 S3 σ4 H' e3 q4⟩
  · have e : n = xs.length := by omega
    subst e
    refine .inl ⟨g2 (by rw [List.length_map]; exact Nat.le_refl _), u2 S2 σ2 H2 (b.trans (e1.trans e2)) ?_⟩
    rw [List.take_length] at q2
    exact q2

/-! ### comprehensions -/
abbrev BX (X : ι → Cx) (scope : Scope) : ι × Shared × Hp × Addr × List (Str × Addr) × List Addr → Cx := fun i => (X i.1).blk i.2.1 i.2.2.1 scope (compEnvC scope i.2.2.2.2.1 i.2.2.2.1 (X i.1).env) i.2.2.2.2.2
theorem fam_blk {scope : Scope} (F : Fam X P w K mg base A N) : Fam (BX X scope) P w K mg base A N :=
  ⟨fun i => F.fP i.1, fun i => F.fw i.1, fun i => F.fK i.1, fun i => F.fmg i.1, fun i => F.fbase i.1, fun i => F.fA i.1, fun i => F.fN i.1, F.nd⟩
/-- the slots of a block's own names forgotten -/
def wipeG : Slots → List Nat → Slots
  | Γ, [] => Γ
  | Γ, v :: vs => (wipeG Γ vs).set v none
theorem wipe_slots {S : Hp} : ∀ {Γ : Slots} {σ : L2.St} (vs : List Nat), All2 (fun (s : Option Sl) (o : Option V) => ∀ s', s = some s' → ∃ v, o = some v ∧ s'.r K S v) Γ σ → All2 (fun (s : Option Sl) (o : Option V) => ∀ s', s = some s' → ∃ v, o = some v ∧ s'.r K S v) (wipeG Γ vs) (wipe σ vs)
  | _, _, [], h => h
  | _, _, v :: vs, h => All2.set (fun s' e => nomatch e) v (wipe_slots vs h)
/-- the tests of a comprehension -/
def TsJ (X : ι → Cx) (K : PySem.W.Frag) (E : Ent) (Γ : Slots) (R : List Res) (ifs : List Expr) (k : Bool) : Prop :=
  ∃ t : TT, (∀ i, PTs (X i) ifs t) ∧ ∀ S σ H (Q : Bool → Hp → Prop), SR K E Γ R S σ H → KontB K E Γ R σ S k Q → t σ H Q
theorem ts_nil : TsJ X K E Γ R [] true := ⟨tYes, fun _ => pts_nil, fun S σ H Q q k => k S H (Same.refl _) q⟩
theorem ts_one {k : Bool} (h : TeJ X K E Γ R c k) : TsJ X K E Γ R [c] k := let ⟨t, h1, h2⟩ := h; ⟨t, fun i => pts_one (h1 i), h2⟩
theorem pts_any {Y : Cx} {ifs : List Expr} {ν : Type} {u : ν → TT} (h : ∀ n, PTs Y ifs (u n)) : PTs Y ifs (fun σ H Q => ∃ n, u n σ H Q) := ⟨fun pins s σ H Q I ⟨n, q⟩ => (h n).run pins s σ H Q I q⟩
theorem pe_any {Y : Cx} {ν : Type} {u : ν → TE} (h : ∀ n, PE Y e (u n)) : PE Y e (fun σ H Q => ∃ n, u n σ H Q) := ⟨fun pins s σ H Q I ⟨n, q⟩ => (h n).run pins s σ H Q I q⟩
theorem wipe_eq {σ σ' : L2.St} {vs us : List Nat} (h : ∀ j, j ∉ us → σ'[j]? = (wipe σ vs)[j]?) (hl : σ'.length = (wipe σ vs).length) (hu : ∀ j ∈ us, j ∈ vs) : wipe σ' vs = wipe σ vs := by
  have key : ∀ (vs : List Nat) (σ : L2.St) (j : Nat), (wipe σ vs)[j]? = if j ∈ vs ∧ j < σ.length then some none else σ[j]? := by
    intro vs
    induction vs with
    | nil => intro σ j; simp [wipe]
    | cons v vs ih =>
      intro σ j
      show ((wipe σ vs).set v none)[j]? = _
      by_cases e : v = j
      · subst e
        by_cases hv : v < σ.length
        · rw [List.getElem?_set_self (by rw [wipe_length]; exact hv), if_pos ⟨List.mem_cons_self, hv⟩]
        · rw [if_neg (fun z => hv z.2), List.getElem?_eq_none (by rw [List.length_set, wipe_length]; omega), List.getElem?_eq_none (by omega)]
      · rw [List.getElem?_set_ne e, ih]
        have : (j ∈ v :: vs) ↔ j ∈ vs := by simp [Ne.symm e]
        simp only [this]
  apply List.ext_getElem?
  intro j
  rw [key, key]
  rw [wipe_length] at hl
  by_cases hj : j ∈ vs
  · by_cases hlt : j < σ.length
    · rw [if_pos ⟨hj, by omega⟩, if_pos ⟨hj, hlt⟩]
    · rw [if_neg (fun z => hlt (by omega)), if_neg (fun z => hlt z.2), List.getElem?_eq_none (by omega), List.getElem?_eq_none (by omega)]
  · rw [if_neg (fun z => hj z.1), if_neg (fun z => hj z.1), h j fun z => hj (hu j z), key, if_neg fun z => hj z.1]
theorem ev_lc {α : Type} {tg iter elt : Expr} {ifs : List Expr} {scope : Scope} {own : List (Str × Nat)} {C : List Res → Prop} {us : List Nat} {xs : List α} {it : α → Sl} {up : α → Slots → Slots} {k : α → Bool} {d : α → PyData} {se : α → Sl}
    (F : Fam X P w K mg base A N) (hi : ItJ X K E Γ R tg iter R1 (xs.map it) C) (ok : ∀ i, BlkOk (X i).N (X i).env.scope scope own)
    (htg : TgA (BX X scope) K E tg it up us) (hu : ∀ j ∈ us, j ∈ own.map (·.2))
    (hC : ∀ D acc, C (R1 ++ [rL D acc])) (ht : ∀ D acc, ∀ x ∈ xs, TsJ (BX X scope) K E (up x (wipeG Γ (own.map (·.2)))) (R1 ++ [rL D acc]) ifs (k x))
    (he : ∀ D acc, ∀ x ∈ xs, k x = true → EvJ (BX X scope) K E (up x (wipeG Γ (own.map (·.2)))) (R1 ++ [rL D acc]) elt (R1 ++ [rL D acc]) (se x)) (hd : ∀ x ∈ xs, k x = true → ∀ K S v, (se x).r K S v → Da K S v (d x))
    (hz : xs.length ≤ 1000000) (hs : ∀ i x, foldedSetIterable iter (X i).env x = pure x := by exact fun _ _ => rfl) (hcm : ∀ i, (X i).calm = true := by exact fun _ => rfl) :
    EvL X K E Γ R (.ListComp elt [⟨tg, iter, ifs, 0⟩] scope pos) R1 ((xs.filter k).map d) := by
  obtain ⟨wi, w1, w2⟩ := hi
  obtain ⟨g, t1, t2⟩ := htg
  have ht' := fun (n : { q : Addr × List PyData × α // q.2.2 ∈ xs }) => Classical.choose_spec (ht n.1.1 n.1.2.1 n.1.2.2 n.2)
  have he' := fun (n : { q : Addr × List PyData × α // q.2.2 ∈ xs ∧ k q.2.2 = true }) => Classical.choose_spec (he n.1.1 n.1.2.1 n.1.2.2 n.2.1 n.2.2)
  refine ⟨tLc wi g _ _ (own.map (·.2)), fun i => pe_lc (hcm i) (by rw [F.fN i]; exact F.nd) (w1 i) (ok i) (fun s H C cl fp => t1 ⟨i, s, H, C, cl, fp⟩) (fun s H C cl fp => pts_any fun n => (ht' n).1 ⟨i, s, H, C, cl, fp⟩) (fun s H C cl fp => pe_any fun n => (he' n).1 ⟨i, s, H, C, cl, fp⟩) (hs i), fun S σ H Q q kk => ?_⟩
  refine w2 S σ H _ q fun J S1 H1 e1 q1 hJ D hD => ?_
  refine ⟨fun n m H => m = xs.length - n ∧ n ≤ xs.length ∧ ∃ S', Same S1 S' ∧ SR K E Γ (R1 ++ [rL D (((xs.take n).filter k).map d)]) S' σ H, ⟨xs.length, by simp, Nat.zero_le _, S1, Same.refl _, q1.mine hD ⟨[], rfl, .nil⟩⟩, ?_⟩
  rintro n m H2 ⟨rfl, hn, S2, e2, q2⟩
  obtain ⟨g1, g2⟩ := hJ n _ _ S2 σ H2 e2 q2 (hC _ _)
  by_cases hlt : n < xs.length
  · have hx : xs[n]? = some xs[n] := List.getElem?_eq_getElem hlt
    have hm : xs[n] ∈ xs := List.getElem_mem hlt
    have htake : xs.take (n + 1) = xs.take n ++ [xs[n]] := by rw [List.take_succ, hx]; rfl
    obtain ⟨go, hy⟩ := g1 (it xs[n]) (by rw [List.getElem?_map, hx]; rfl)
    refine .inr ⟨go, fun H' => ∃ S', Same S1 S' ∧ SR K E Γ (R1 ++ [rL D (((xs.take (n + 1)).filter k).map d)]) S' σ H', fun H' h' => ⟨xs.length - (n + 1), by omega, rfl, hlt, h'⟩, fun x H' hx' => ?_⟩
    obtain ⟨S3, e3, q3, r3⟩ := hy x H' hx'
    apply t2 xs[n] _ _ S3 (wipe σ (own.map (·.2))) H' x _ (q3.reslot (wipe_slots _ q3.slots)) r3
    intro σ4 q4 o4 l4
    refine ⟨wipe_eq o4 l4 hu, ?_⟩
    refine ⟨⟨(D, ((xs.take n).filter k).map d, xs[n]), hm⟩, (ht' ⟨(D, ((xs.take n).filter k).map d, xs[n]), hm⟩).2 S3 σ4 H' _ q4 fun S5 H5 e5 q5 => ?_⟩
    have q5' : SR K E Γ (R1 ++ [rL D (((xs.take n).filter k).map d)]) S5 σ H5 := q5.reslot (slots_mono e5 q3.slots)
    cases hk : k xs[n] with
    | false =>
      refine iteF ⟨S5, (e2.trans e3).trans e5, ?_⟩
      rw [htake, List.filter_append, List.filter_cons, if_neg (by rw [hk]; exact Bool.false_ne_true), List.filter_nil, List.append_nil]
      exact q5'
    | true =>
      refine iteT ⟨⟨(D, ((xs.take n).filter k).map d, xs[n]), hm, hk⟩, (he' ⟨(D, ((xs.take n).filter k).map d, xs[n]), hm, hk⟩).2 S5 σ4 H5 _ q5 fun y S6 H6 e6 q6 r6 => ?_⟩
      have q6' : SR K E Γ (R1 ++ [rL D (((xs.take n).filter k).map d)]) S6 σ H6 := q6.reslot (slots_mono e6 q5'.slots)
      obtain ⟨O, ⟨acc, eO, hacc⟩, sO⟩ := q6'.res R1.length get_last
      subst eO
      refine ⟨acc, sO D _ hOne_same, ?_, S6, ((e2.trans e3).trans e5).trans e6, ?_⟩
      · rw [daAll_len hacc, List.length_map]
        have h1 := List.length_filter_le k (xs.take n)
        rw [List.length_take] at h1
        have : (sizeLine : Nat) = 16777216 := sizeLine_eq
        omega
      · rw [htake, List.filter_append, List.filter_cons, if_pos (by rw [hk]), List.filter_nil, List.map_append]
        have := q6'.putL R1.length get_last (daAll_app hacc (.cons (hd _ hm hk K S6 y r6) .nil))
        rw [set_last] at this
        exact this
  · have e : n = xs.length := by omega
    subst e
    rw [List.take_length] at q2
    exact .inl ⟨g2 (by rw [List.length_map]; exact Nat.le_refl _), kk D _ S2 H2 (e1.trans e2) q2 rfl⟩
end
end SL

/-! defs: their promises, their calls -/
namespace SL
open PySem PySem.Spec PyProof.Rows L2
/-- a def's promise: under pre, from arguments of which as is said and the cells R of one's own, a result of which res is said and the cells R' -/
def spJ (K : PySem.W.Frag) {θ : Type} {ν : θ → Type} (pre : θ → Prop) (as : θ → List Sl) (R : θ → List Res) (R' : ∀ i, ν i → List Res) (res : ∀ i, ν i → Sl) : Sp := fun vs H Q _ =>
  ∃ (i : θ) (S0 : Hp) (Os : List Hp), pre i ∧ Same S0 H ∧ All2 (fun (s : Sl) v => s.r K S0 v) (as i) vs ∧ Own K S0 H (R i) Os ∧
    ∀ (n : ν i) v S' H' Os', (∀ a o, H a = some o → ¬ InOs Os a → H' a = some o) → Same S' H' → Same S0 S' → (∀ a, S' a ≠ none → S0 a ≠ none ∨ H a = none ∨ InOs Os a) →
      Own K S' H' (R' i n) Os' → (∀ O ∈ Os', ∀ a, O a ≠ none → InOs Os a ∨ H a = none) → (res i n).r K S' v → Q v H'
/-- a def that may be called -/
structure Cal (P : Program) (w : World) (K : PySem.W.Frag) (mg : Str → Option Value) (base : Heap) (A : Around) (f : Str) (ps : List Str) (sp : Sp) : Prop where
  ex : ∃ (CX : CXT) (k : Nat) (fa : Addr) (fd : FuncData), FnOk P w K mg base CX k fa fd ps sp ∧ Room k A ∧ mg f = some (.ref fa) ∧ PySem.W.keepIn K (.ref fa) = true ∧ Binds K fd ps [] ∧ ∀ Y : Cx, Y.prog = P → Y.w = w → Passes CX Y E0
section
variable {ι : Type} {X : ι → Cx} {K : PySem.W.Frag} {E : Ent} {B : Hp} {Γ Γ' : Slots} {R R' R1 R2' R3 : List Res} {a b c e : Expr} {es : List Expr} {pos p' : Pos} {s s1 s2 s3 : Sl}
  {P : Program} {w : World} {mg : Str → Option Value} {base : Heap} {A : Around} {N : List Str} {rest sts : List Stmt} {D : Ends} {S S' H H' : Hp} {σ σ' : L2.St} {f : Str} {ps : List Str}
theorem ev_callN {θ : Type} {ν : θ → Type} {pre : θ → Prop} {as : θ → List Sl} {Rn : ∀ i, ν i → List Res} {res : ∀ i, ν i → Sl} (F : Fam X P w K mg base A N) (C : Cal P w K mg base A f ps (spJ K pre as (fun _ => []) Rn res)) (i : θ) (ha : ArJ X K E Γ R (e :: es) R1 (as i)) (hpre : pre i)
    (hg : ∀ i, Gl (X i) f := by exact fun _ => rfl) (he : ∀ i, starEach (e :: es) (X i).env = (false, eval e (X i).env) :: starEach es (X i).env := by exact fun _ => rfl) (hpl : ∀ i, (backTo pos (starEach es (X i).env)).any (·.1) = false := by exact fun _ => rfl) (hdb : (f == ("__debug__" : Str)) = false := by decide) :
    EvN X K E Γ R (.Call (.Name f p') (e :: es) [] pos) (fun n => R1 ++ Rn i n) (res i) := by
  obtain ⟨CX, k, fa, fd, hF, hr, hm, hk, hb, hx⟩ := C.ex
  obtain ⟨t, a1, a2⟩ := ha
  refine ⟨tCall (spJ K pre as (fun _ => []) Rn res) [] E0 t, fun j => ?_, fun S σ H Q q kk => a2 S σ H _ q fun vs S1 H1 e1 q1 r1 => ?_⟩
  · refine pe_call (CX := CX) (k := k) (f := fa) (fd := fd) (ps := ps) (ds := []) ?_ (by rw [F.fA j]; exact hr) (hg j) (by rw [F.fmg j]; exact hm) (by rw [F.fK j]; exact hk) (by rw [F.fK j]; exact hb) .nil (hx _ (F.fP j) (F.fw j)) (a1 j) hdb (he j) (hpl j)
    rw [F.fP j, F.fw j, F.fK j, F.fmg j, F.fbase j]
    exact hF
  · rw [List.append_nil]
    refine ⟨i, S1, [], hpre, q1.sub, r1, ⟨.nil, .nil⟩, fun n v S' H' Os' hfr hsub hext hnew hown hO hres => kk n v S' H' (e1.trans hext) ?_ hres⟩
    have none_of : ∀ x, ¬ InOs [] x := fun x ⟨O, hO, _⟩ => by simp at hO
    obtain ⟨Os, ⟨b1, b2⟩, b3⟩ := q1.own
    have dis : ∀ (O : Hp), Same O H1 → (∀ x, O x ≠ none → S1 x = none) → ∀ x, O x ≠ none → S' x = none := fun O hO hS x hx' => by
      cases e2 : S' x with
      | none => rfl
      | some u =>
        rcases hnew x (by rw [e2]; exact fun z => nomatch z) with z | z | z
        · exact absurd (hS x hx') z
        · cases e3 : O x with
          | none => exact absurd e3 hx'
          | some u' => rw [hO x u' e3] at z; cases z
        · exact absurd z (none_of x)
    refine ⟨hsub, q1.ext.trans hext, fun x u e n => hfr x u (q1.fr x u e n) (none_of x), fun x hx' => ?_, ⟨Os ++ Os', ⟨(b1.imp fun ρ O hh => ⟨ρ.mono hext hh.1, fun x u e => hfr x u (hh.2.1 x u e) (none_of x), dis O hh.2.1 hh.2.2⟩).app hown.all, ?_⟩, fun O hO' x hx' => ?_⟩, slots_mono hext q1.slots⟩
    · rcases hnew x hx' with z | z | z
      · exact q1.new x z
      · by_cases n : E.A0 x
        · exact .inr (.inr n)
        · cases e0 : E.H0 x with
          | none => exact .inr (.inl rfl)
          | some u => rw [q1.fr x u e0 n] at z; cases z
      · exact absurd z (none_of x)
    · refine List.pairwise_append.mpr ⟨b2, hown.dis, fun O hO1 O' hO2 x hx' => ?_⟩
      cases e2 : O' x with
      | none => rfl
      | some u =>
        rcases hO O' hO2 x (by rw [e2]; exact fun z => nomatch z) with z | z
        · exact absurd z (none_of x)
        · obtain ⟨ρ, _, hh⟩ := all2_mem b1 hO1
          cases e3 : O x with
          | none => exact absurd e3 hx'
          | some u' => rw [hh.2.1 x u' e3] at z; cases z
    · rcases List.mem_append.mp hO' with z | z
      · exact b3 O z x hx'
      · rcases hO O z x hx' with z | z
        · exact absurd z (none_of x)
        · by_cases n : E.A0 x
          · exact .inl n
          · cases e0 : E.H0 x with
            | none => exact .inr rfl
            | some u => rw [q1.fr x u e0 n] at z; cases z
theorem ev_of_unit {Rn : Unit → List Res} {sn : Unit → Sl} (h : EvN X K E Γ R e Rn sn) : EvJ X K E Γ R e (Rn ()) (sn ()) := let ⟨t, h1, h2⟩ := h; ⟨t, h1, fun S σ H Q q k => h2 S σ H Q q fun _ => k⟩

/-! ### by the number of arguments -/
abbrev sp1 (K : PySem.W.Frag) {α : Type} (pre : α → Prop) (d1 : α → Sl) (res : α → Sl) : Sp := spJ K (θ := α) (ν := fun _ => Unit) pre (fun i => [d1 i]) (fun _ => []) (fun _ _ => []) (fun i _ => res i)
abbrev sp2 (K : PySem.W.Frag) {α β : Type} (pre : α → β → Prop) (d1 : α → Sl) (d2 : β → Sl) (res : α → β → Sl) : Sp := spJ K (θ := α × β) (ν := fun _ => Unit) (fun i => pre i.1 i.2) (fun i => [d1 i.1, d2 i.2]) (fun _ => []) (fun _ _ => []) (fun i _ => res i.1 i.2)
abbrev sp3 (K : PySem.W.Frag) {α β γ : Type} (pre : α → β → γ → Prop) (d1 : α → Sl) (d2 : β → Sl) (d3 : γ → Sl) (res : α → β → γ → Sl) : Sp :=
  spJ K (θ := α × β × γ) (ν := fun _ => Unit) (fun i => pre i.1 i.2.1 i.2.2) (fun i => [d1 i.1, d2 i.2.1, d3 i.2.2]) (fun _ => []) (fun _ _ => []) (fun i _ => res i.1 i.2.1 i.2.2)
abbrev sp4 (K : PySem.W.Frag) {α β γ δ : Type} (pre : α → β → γ → δ → Prop) (d1 : α → Sl) (d2 : β → Sl) (d3 : γ → Sl) (d4 : δ → Sl) (res : α → β → γ → δ → Sl) : Sp :=
  spJ K (θ := α × β × γ × δ) (ν := fun _ => Unit) (fun i => pre i.1 i.2.1 i.2.2.1 i.2.2.2) (fun i => [d1 i.1, d2 i.2.1, d3 i.2.2.1, d4 i.2.2.2]) (fun _ => []) (fun _ _ => []) (fun i _ => res i.1 i.2.1 i.2.2.1 i.2.2.2)
abbrev sp5 (K : PySem.W.Frag) {α β γ δ ε : Type} (pre : α → β → γ → δ → ε → Prop) (d1 : α → Sl) (d2 : β → Sl) (d3 : γ → Sl) (d4 : δ → Sl) (d5 : ε → Sl) (res : α → β → γ → δ → ε → Sl) : Sp :=
  spJ K (θ := α × β × γ × δ × ε) (ν := fun _ => Unit) (fun i => pre i.1 i.2.1 i.2.2.1 i.2.2.2.1 i.2.2.2.2) (fun i => [d1 i.1, d2 i.2.1, d3 i.2.2.1, d4 i.2.2.2.1, d5 i.2.2.2.2]) (fun _ => []) (fun _ _ => []) (fun i _ => res i.1 i.2.1 i.2.2.1 i.2.2.2.1 i.2.2.2.2)
/-- .. that hand back a new list -/
abbrev spL1 (K : PySem.W.Frag) {α : Type} (pre : α → Prop) (d1 : α → Sl) (res : α → List PyData) : Sp := spJ K (θ := α) (ν := fun _ => Addr) pre (fun i => [d1 i]) (fun _ => []) (fun i p => [rL p (res i)]) (fun _ p => sv (.ref p))
abbrev spL2 (K : PySem.W.Frag) {α β : Type} (pre : α → β → Prop) (d1 : α → Sl) (d2 : β → Sl) (res : α → β → List PyData) : Sp := spJ K (θ := α × β) (ν := fun _ => Addr) (fun i => pre i.1 i.2) (fun i => [d1 i.1, d2 i.2]) (fun _ => []) (fun i p => [rL p (res i.1 i.2)]) (fun _ p => sv (.ref p))
abbrev spL3 (K : PySem.W.Frag) {α β γ : Type} (pre : α → β → γ → Prop) (d1 : α → Sl) (d2 : β → Sl) (d3 : γ → Sl) (res : α → β → γ → List PyData) : Sp :=
  spJ K (θ := α × β × γ) (ν := fun _ => Addr) (fun i => pre i.1 i.2.1 i.2.2) (fun i => [d1 i.1, d2 i.2.1, d3 i.2.2]) (fun _ => []) (fun i p => [rL p (res i.1 i.2.1 i.2.2)]) (fun _ p => sv (.ref p))
abbrev spL4 (K : PySem.W.Frag) {α β γ δ : Type} (pre : α → β → γ → δ → Prop) (d1 : α → Sl) (d2 : β → Sl) (d3 : γ → Sl) (d4 : δ → Sl) (res : α → β → γ → δ → List PyData) : Sp :=
  spJ K (θ := α × β × γ × δ) (ν := fun _ => Addr) (fun i => pre i.1 i.2.1 i.2.2.1 i.2.2.2) (fun i => [d1 i.1, d2 i.2.1, d3 i.2.2.1, d4 i.2.2.2]) (fun _ => []) (fun i p => [rL p (res i.1 i.2.1 i.2.2.1 i.2.2.2)]) (fun _ p => sv (.ref p))
section
variable (F : Fam X P w K mg base A N) {α β γ δ ε : Type} {d1 : α → Sl} {d2 : β → Sl} {d3 : γ → Sl} {d4 : δ → Sl} {d5 : ε → Sl} {x1 : α} {x2 : β} {x3 : γ} {x4 : δ} {x5 : ε}
include F
theorem ev_call1 {pre : α → Prop} {res : α → Sl} (C : Cal P w K mg base A f ps (sp1 K pre d1 res)) (ha : ArJ X K E Γ R (e :: es) R1 [d1 x1]) (hpre : pre x1) (hg : ∀ i, Gl (X i) f := by exact fun _ => rfl) (he : ∀ i, starEach (e :: es) (X i).env = (false, eval e (X i).env) :: starEach es (X i).env := by exact fun _ => rfl) (hpl : ∀ i, (backTo pos (starEach es (X i).env)).any (·.1) = false := by exact fun _ => rfl) (hdb : (f == ("__debug__" : Str)) = false := by decide) : EvJ X K E Γ R (.Call (.Name f p') (e :: es) [] pos) R1 (res x1) := by
  have := ev_of_unit (ev_callN (p' := p') F C x1 ha hpre hg he hpl hdb)
  rw [List.append_nil] at this
  exact this
theorem ev_call2 {pre : α → β → Prop} {res : α → β → Sl} (C : Cal P w K mg base A f ps (sp2 K pre d1 d2 res)) (ha : ArJ X K E Γ R (e :: es) R1 [d1 x1, d2 x2]) (hpre : pre x1 x2) (hg : ∀ i, Gl (X i) f := by exact fun _ => rfl) (he : ∀ i, starEach (e :: es) (X i).env = (false, eval e (X i).env) :: starEach es (X i).env := by exact fun _ => rfl) (hpl : ∀ i, (backTo pos (starEach es (X i).env)).any (·.1) = false := by exact fun _ => rfl) (hdb : (f == ("__debug__" : Str)) = false := by decide) : EvJ X K E Γ R (.Call (.Name f p') (e :: es) [] pos) R1 (res x1 x2) := by
  have := ev_of_unit (ev_callN (p' := p') F C (x1, x2) ha hpre hg he hpl hdb)
  rw [List.append_nil] at this
  exact this
theorem ev_call3 {pre : α → β → γ → Prop} {res : α → β → γ → Sl} (C : Cal P w K mg base A f ps (sp3 K pre d1 d2 d3 res)) (ha : ArJ X K E Γ R (e :: es) R1 [d1 x1, d2 x2, d3 x3]) (hpre : pre x1 x2 x3) (hg : ∀ i, Gl (X i) f := by exact fun _ => rfl) (he : ∀ i, starEach (e :: es) (X i).env = (false, eval e (X i).env) :: starEach es (X i).env := by exact fun _ => rfl) (hpl : ∀ i, (backTo pos (starEach es (X i).env)).any (·.1) = false := by exact fun _ => rfl) (hdb : (f == ("__debug__" : Str)) = false := by decide) : EvJ X K E Γ R (.Call (.Name f p') (e :: es) [] pos) R1 (res x1 x2 x3) := by
  have := ev_of_unit (ev_callN (p' := p') F C (x1, x2, x3) ha hpre hg he hpl hdb)
  rw [List.append_nil] at this
  exact this
theorem ev_call4 {pre : α → β → γ → δ → Prop} {res : α → β → γ → δ → Sl} (C : Cal P w K mg base A f ps (sp4 K pre d1 d2 d3 d4 res)) (ha : ArJ X K E Γ R (e :: es) R1 [d1 x1, d2 x2, d3 x3, d4 x4]) (hpre : pre x1 x2 x3 x4) (hg : ∀ i, Gl (X i) f := by exact fun _ => rfl) (he : ∀ i, starEach (e :: es) (X i).env = (false, eval e (X i).env) :: starEach es (X i).env := by exact fun _ => rfl) (hpl : ∀ i, (backTo pos (starEach es (X i).env)).any (·.1) = false := by exact fun _ => rfl) (hdb : (f == ("__debug__" : Str)) = false := by decide) : EvJ X K E Γ R (.Call (.Name f p') (e :: es) [] pos) R1 (res x1 x2 x3 x4) := by
  have := ev_of_unit (ev_callN (p' := p') F C (x1, x2, x3, x4) ha hpre hg he hpl hdb)
  rw [List.append_nil] at this
  exact this
theorem ev_call5 {pre : α → β → γ → δ → ε → Prop} {res : α → β → γ → δ → ε → Sl} (C : Cal P w K mg base A f ps (sp5 K pre d1 d2 d3 d4 d5 res)) (ha : ArJ X K E Γ R (e :: es) R1 [d1 x1, d2 x2, d3 x3, d4 x4, d5 x5]) (hpre : pre x1 x2 x3 x4 x5) (hg : ∀ i, Gl (X i) f := by exact fun _ => rfl) (he : ∀ i, starEach (e :: es) (X i).env = (false, eval e (X i).env) :: starEach es (X i).env := by exact fun _ => rfl) (hpl : ∀ i, (backTo pos (starEach es (X i).env)).any (·.1) = false := by exact fun _ => rfl) (hdb : (f == ("__debug__" : Str)) = false := by decide) :
    EvJ X K E Γ R (.Call (.Name f p') (e :: es) [] pos) R1 (res x1 x2 x3 x4 x5) := by
  have := ev_of_unit (ev_callN (p' := p') F C (x1, x2, x3, x4, x5) ha hpre hg he hpl hdb)
  rw [List.append_nil] at this
  exact this
theorem el_call1 {pre : α → Prop} {res : α → List PyData} (C : Cal P w K mg base A f ps (spL1 K pre d1 res)) (ha : ArJ X K E Γ R (e :: es) R1 [d1 x1]) (hpre : pre x1) (hg : ∀ i, Gl (X i) f := by exact fun _ => rfl) (he : ∀ i, starEach (e :: es) (X i).env = (false, eval e (X i).env) :: starEach es (X i).env := by exact fun _ => rfl) (hpl : ∀ i, (backTo pos (starEach es (X i).env)).any (·.1) = false := by exact fun _ => rfl) (hdb : (f == ("__debug__" : Str)) = false := by decide) : EvL X K E Γ R (.Call (.Name f p') (e :: es) [] pos) R1 (res x1) := ev_callN (p' := p') F C x1 ha hpre hg he hpl hdb
theorem el_call2 {pre : α → β → Prop} {res : α → β → List PyData} (C : Cal P w K mg base A f ps (spL2 K pre d1 d2 res)) (ha : ArJ X K E Γ R (e :: es) R1 [d1 x1, d2 x2]) (hpre : pre x1 x2) (hg : ∀ i, Gl (X i) f := by exact fun _ => rfl) (he : ∀ i, starEach (e :: es) (X i).env = (false, eval e (X i).env) :: starEach es (X i).env := by exact fun _ => rfl) (hpl : ∀ i, (backTo pos (starEach es (X i).env)).any (·.1) = false := by exact fun _ => rfl) (hdb : (f == ("__debug__" : Str)) = false := by decide) : EvL X K E Γ R (.Call (.Name f p') (e :: es) [] pos) R1 (res x1 x2) := ev_callN (p' := p') F C (x1, x2) ha hpre hg he hpl hdb
theorem el_call3 {pre : α → β → γ → Prop} {res : α → β → γ → List PyData} (C : Cal P w K mg base A f ps (spL3 K pre d1 d2 d3 res)) (ha : ArJ X K E Γ R (e :: es) R1 [d1 x1, d2 x2, d3 x3]) (hpre : pre x1 x2 x3) (hg : ∀ i, Gl (X i) f := by exact fun _ => rfl) (he : ∀ i, starEach (e :: es) (X i).env = (false, eval e (X i).env) :: starEach es (X i).env := by exact fun _ => rfl) (hpl : ∀ i, (backTo pos (starEach es (X i).env)).any (·.1) = false := by exact fun _ => rfl) (hdb : (f == ("__debug__" : Str)) = false := by decide) : EvL X K E Γ R (.Call (.Name f p') (e :: es) [] pos) R1 (res x1 x2 x3) := ev_callN (p' := p') F C (x1, x2, x3) ha hpre hg he hpl hdb
theorem el_call4 {pre : α → β → γ → δ → Prop} {res : α → β → γ → δ → List PyData} (C : Cal P w K mg base A f ps (spL4 K pre d1 d2 d3 d4 res)) (ha : ArJ X K E Γ R (e :: es) R1 [d1 x1, d2 x2, d3 x3, d4 x4]) (hpre : pre x1 x2 x3 x4) (hg : ∀ i, Gl (X i) f := by exact fun _ => rfl) (he : ∀ i, starEach (e :: es) (X i).env = (false, eval e (X i).env) :: starEach es (X i).env := by exact fun _ => rfl) (hpl : ∀ i, (backTo pos (starEach es (X i).env)).any (·.1) = false := by exact fun _ => rfl) (hdb : (f == ("__debug__" : Str)) = false := by decide) :
    EvL X K E Γ R (.Call (.Name f p') (e :: es) [] pos) R1 (res x1 x2 x3 x4) := ev_callN (p' := p') F C (x1, x2, x3, x4) ha hpre hg he hpl hdb
end

/-! ### a def's body -/
/-- the context of a def's body that lets nothing out -/
abbrev FX (P : Program) (w : World) (K : PySem.W.Frag) (mg : Str → Option Value) (base : Heap) (N : List Str) (qual : Str) (st : Stmt) (f : Addr) (cdv : Value) (A : Around) (outer : List Env) (s : Shared) (H : Hp) (E : XK) : Unit → Cx :=
  fun _ => (cxOf CX0 P w K mg base N qual (defScope st) f cdv A outer s H E).nox
theorem fam_fx {qual : Str} {st : Stmt} {f : Addr} {cdv : Value} {A : Around} {outer : List Env} {s : Shared} {H : Hp} {E : XK} {ps : List Str} (S : FnScope N ps (defScope st)) : Fam (FX P w K mg base N qual st f cdv A outer s H E) P w K mg base (A.deeper (envOfC qual (defScope st) s.heap.objs.size f cdv)) N :=
  ⟨fun _ => rfl, fun _ => rfl, fun _ => rfl, fun _ => rfl, fun _ => rfl, fun _ => rfl, fun _ => rfl, S.nd⟩
theorem replicate_slots {S : Hp} : ∀ n : Nat, All2 (fun (s : Option Sl) (o : Option V) => ∀ s', s = some s' → ∃ v, o = some v ∧ s'.r K S v) (List.replicate n none) (List.replicate n none)
  | 0 => .nil
  | n + 1 => .cons (fun s' e => nomatch e) (replicate_slots n)
theorem slots_args {S : Hp} : ∀ {ss : List Sl} {vs : List V}, All2 (fun (s : Sl) v => s.r K S v) ss vs → All2 (fun (s : Option Sl) (o : Option V) => ∀ s', s = some s' → ∃ v, o = some v ∧ s'.r K S v) (ss.map some) (vs.map some)
  | _, _, .nil => .nil
  | _, _, .cons h t => .cons (fun s' e => ⟨_, rfl, by rw [← Option.some.inj e]; exact h⟩) (slots_args t)
/-- what a def's return asks: RetOk -/
def RetOk (K : PySem.W.Frag) (E : Ent) {ν : Type} (R' : ν → List Res) (res : ν → Sl) (Q : VK) : Prop := ∀ n Γ S σ H v, SR K E Γ (R' n) S σ H → (res n).r K S v → Q v H
theorem fn_ok {θ : Type} {ν : θ → Type} {pre : θ → Prop} {as : θ → List Sl} {Rs : θ → List Res} {Rn : ∀ i, ν i → List Res} {res : ∀ i, ν i → Sl} {x qual : Str} {st : Stmt} {f : Addr} {fd : FuncData} {k : Nat} (F : Fun K x qual st f fd) (S : FnScope N ps (defScope st)) (hlen : ∀ i, (as i).length = ps.length)
    (hb : ∀ (i : θ) (cdv : Value) (A : Around) (outer : List Env) (s : Shared) (H S0 : Hp) (A0 : Addr → Prop) (E : XK) (Q : VK), Room k (A.deeper (envOfC qual (defScope st) s.heap.objs.size f cdv)) → pre i → RetOk K ⟨H, S0, A0⟩ (Rn i) (res i) Q →
      Blk (FX P w K mg base N qual st f cdv A outer s H E) K ⟨H, S0, A0⟩ S0 ((as i).map some ++ List.replicate (N.length - (as i).length) none) (Rs i) (defBody st) { nx := fun _ H' => Q .non H', rt := Q }) :
    FnOk P w K mg base CX0 (k + 1) f fd ps (spJ K pre as Rs Rn res) := by
  refine F.ok S (fun vs H Q E ⟨i, S0, Os, h1, h2, h3, h4, h5⟩ => by rw [← h3.len]; exact hlen i) (fun cdv A outer s H vs Q E hr ⟨i, S0, Os, h1, h2, h3, h4, h5⟩ => ?_)
  obtain ⟨t, t1, t2⟩ := hb i cdv A outer s H S0 (InOs Os) E Q hr h1 (fun n Γ S σ H' v q r => by
    obtain ⟨Os', g1, g2⟩ := q.own
    exact h5 n v S H' Os' q.fr q.sub q.ext q.new g1 (fun O hO a ha => g2 O hO a ha) r)
  refine ⟨t, t1 (), t2 S0 _ H (Same.refl _) ⟨h2, Same.refl _, fun _ _ e _ => e, fun a ha => .inl ha, ⟨Os, h4, fun O hO a ha => .inl ⟨O, hO, ha⟩⟩, ?_⟩⟩
  unfold L2.start
  rw [h3.len]
  exact (slots_args h3).app (replicate_slots _)
theorem ret_j {ν : Type} {Rn : ν → List Res} {res : ν → Sl} {Q : VK} (hq : RetOk K E Rn res Q) (n : ν) (h1 : ∀ S σ H, SR K E Γ R1 S σ H → SR K E Γ (Rn n) S σ H) (h2 : ∀ S v, s.r K S v → (res n).r K S v) : ∀ S σ H v, SR K E Γ R1 S σ H → s.r K S v → Q v H :=
  fun S σ H v q r => hq n Γ S σ H v (h1 S σ H q) (h2 S v r)
end
end SL

/-! more rules -/
namespace SL
open PySem PySem.Spec PyProof.Rows L2
abbrev dI (i : Int) : Sl := sv (.int i)
abbrev dS (i : Str) : Sl := sv (.str i)
abbrev dB (i : Bool) : Sl := sv (.bl i)
abbrev dN : Sl := sv .non
abbrev dL (ds : List PyData) : Sl := sd (.list ds)
def dint : PyData → Int
  | .int i => i
  | _ => 0
def dstr : PyData → Str
  | .str s => s
  | _ => Str.empty
def dbool : PyData → Bool
  | .bool b => b
  | _ => false
def isI : PyData → Bool
  | .int _ => true
  | _ => false
def isS : PyData → Bool
  | .str _ => true
  | _ => false
def isB : PyData → Bool
  | .bool _ => true
  | _ => false
section
variable {ι : Type} {X : ι → Cx} {K : PySem.W.Frag} {E : Ent} {B : Hp} {Γ Γ' : Slots} {R R' R1 R2' R3 : List Res} {a b c e o : Expr} {es : List Expr} {pos p' : Pos} {s s1 s2 s3 : Sl}
  {P : Program} {w : World} {mg : Str → Option Value} {base : Heap} {A : Around} {N : List Str} {rest sts : List Stmt} {D : Ends} {S S' H H' : Hp} {σ σ' : L2.St} {f : Str} {ps : List Str} {i j : Int} {x y : Str}
theorem ev_neg (h : EvJ X K E Γ R a R1 (dI i)) : EvJ X K E Γ R (.UnaryOp .USub a pos) R1 (dI (-i)) := by
  obtain ⟨t, h1, h2⟩ := h
  exact ⟨tUn (rU fun i => .int (-i)) t, fun i => pe_un un_neg (h1 i), fun S σ H Q q k => h2 S σ H _ q fun v S1 H1 e1 q1 r1 => ⟨i, r1, k _ S1 H1 e1 q1 rfl⟩⟩
/-! ### an item at an open place -/
theorem atI_open {α : Type} {xs : List α} {d : α} (h0 : 0 ≤ i) (h1 : i < xs.length) : atI xs i = some (xs.getD i.toNat d) := by
  have e : ((i.toNat : Nat) : Int) = i := Int.toNat_of_nonneg h0
  have h2 : i.toNat < xs.length := by omega
  have h := atI_nat (xs := xs) (j := i.toNat) (v := xs.getD i.toNat d) (by rw [List.getD_eq_getElem?_getD, List.getElem?_eq_getElem h2]; rfl)
  rw [e] at h
  exact h
theorem getD_map {α β : Type} {f : α → β} {xs : List α} {n : Nat} {d : α} {d' : β} (h : n < xs.length) : (xs.map f).getD n d' = f (xs.getD n d) := by
  rw [List.getD_eq_getElem?_getD, List.getD_eq_getElem?_getD, List.getElem?_map, List.getElem?_eq_getElem h]
  rfl
theorem dint_at {ds : List PyData} (h : ds.all isI = true) (h0 : 0 ≤ i) (h1 : i < ds.length) : atI ds i = some (.int ((ds.map dint).getD i.toNat 0)) := by
  rw [atI_open (d := .none) h0 h1, getD_map (d := .none) (by omega)]
  have := List.all_eq_true.mp h (ds.getD i.toNat .none) (by rw [List.getD_eq_getElem?_getD, List.getElem?_eq_getElem (show i.toNat < ds.length by omega)]; exact List.getElem_mem _)
  generalize ds.getD i.toNat .none = z at *
  cases z <;> first | rfl | cases this
theorem dstr_at {ds : List PyData} (h : ds.all isS = true) (h0 : 0 ≤ i) (h1 : i < ds.length) : atI ds i = some (.str ((ds.map dstr).getD i.toNat Str.empty)) := by
  rw [atI_open (d := .none) h0 h1, getD_map (d := .none) (by omega)]
  have := List.all_eq_true.mp h (ds.getD i.toNat .none) (by rw [List.getD_eq_getElem?_getD, List.getElem?_eq_getElem (show i.toNat < ds.length by omega)]; exact List.getElem_mem _)
  generalize ds.getD i.toNat .none = z at *
  cases z <;> first | rfl | cases this
theorem ix_lstI (F : Fam X P w K mg base A N) {n : Int} {ds : List PyData} (h : LV K R s1 ds) (hi : atI ds i = some (.int n)) : IxJ X K E R s1 (dI i) (dI n) := ix_lst F h hi
theorem ix_lstS (F : Fam X P w K mg base A N) {ds : List PyData} (h : LV K R s1 ds) (hi : atI ds i = some (.str x)) : IxJ X K E R s1 (dI i) (dS x) := ix_lst F h hi
theorem ix_lstB (F : Fam X P w K mg base A N) {k : Bool} {ds : List PyData} (h : LV K R s1 ds) (hi : atI ds i = some (.bool k)) : IxJ X K E R s1 (dI i) (dB k) := ix_lst F h hi
theorem ix_lstT (F : Fam X P w K mg base A N) {ts : List PyData} {ds : List PyData} (h : LV K R s1 ds) (hi : atI ds i = some (.tuple ts)) : IxJ X K E R s1 (dI i) (sd (.tuple ts)) := ix_lst F h hi
theorem ix_lstL (F : Fam X P w K mg base A N) {ts : List PyData} {ds : List PyData} (h : LV K R s1 ds) (hi : atI ds i = some (.list ts)) : IxJ X K E R s1 (dI i) (sd (.list ts)) := ix_lst F h hi
/-- a menu of ints, of texts -/
theorem ix_menuI (F : Fam X P w K mg base A N) {ds : List PyData} (h : LV K R s1 ds) (ha : ds.all isI = true) (h0 : 0 ≤ i) (h1 : i < ds.length) : IxJ X K E R s1 (dI i) (dI ((ds.map dint).getD i.toNat 0)) := ix_lst F h (dint_at ha h0 h1)
theorem ix_menuS (F : Fam X P w K mg base A N) {ds : List PyData} (h : LV K R s1 ds) (ha : ds.all isS = true) (h0 : 0 ≤ i) (h1 : i < ds.length) : IxJ X K E R s1 (dI i) (dS ((ds.map dstr).getD i.toNat Str.empty)) := ix_lst F h (dstr_at ha h0 h1)
/-- of a list that is a map -/
theorem ix_mapped (F : Fam X P w K mg base A N) {α : Type} {g : α → PyData} {xs : List α} {d : α} (h : LV K R s1 (xs.map g)) (h0 : 0 ≤ i) (h1 : i < xs.length) : IxJ X K E R s1 (dI i) (sl (g (xs.getD i.toNat d))) :=
  ix_lst F h (by rw [atI_open (d := .none) h0 (by rw [List.length_map]; exact h1), getD_map (d := d) (by omega)])
theorem ix_tplI (F : Fam X P w K mg base A N) {n : Int} {ds : List PyData} (h : TV K R s1 ds) (hi : atI ds i = some (.int n)) : IxJ X K E R s1 (dI i) (dI n) := ix_tpl F h hi
theorem ix_tplS (F : Fam X P w K mg base A N) {ds : List PyData} (h : TV K R s1 ds) (hi : atI ds i = some (.str x)) : IxJ X K E R s1 (dI i) (dS x) := ix_tpl F h hi
theorem ix_tplB (F : Fam X P w K mg base A N) {k : Bool} {ds : List PyData} (h : TV K R s1 ds) (hi : atI ds i = some (.bool k)) : IxJ X K E R s1 (dI i) (dB k) := ix_tpl F h hi
/-- one sign of a text at an open place -/
theorem ix_sign (hz : x.length ≤ sizeLine) (h0 : 0 ≤ i) (h1 : i < x.length) : IxJ X K E R (dS x) (dI i) (dS ⟨#[x.cps.toList.getD i.toNat 0]⟩) := ix_txt hz (atI_open h0 (by rw [Array.length_toList]; exact h1))

/-! ### built-ins -/
theorem cl_max2 (F : Fam X P w K mg base A N) (hcm : ∀ i, (X i).calm = true := by exact fun _ => rfl) : ClJ X K E (.builtin "max") R [dI i, dI j] (dI (max i j)) :=
  ⟨_, fun n => call_max2 (hcm n), fun Γ S σ H vs Q q r k => by
    obtain ⟨v, u, rfl, r1, r2⟩ := all2_two r
    cases (show v = .int i from r1)
    cases (show u = .int j from r2)
    refine ⟨i, j, rfl, k _ S H (Same.refl _) q ?_⟩
    show V.int (if j > i then j else i) = V.int (max i j)
    congr 1
    omega⟩
theorem cl_min2 (F : Fam X P w K mg base A N) (hcm : ∀ i, (X i).calm = true := by exact fun _ => rfl) : ClJ X K E (.builtin "min") R [dI i, dI j] (dI (min i j)) :=
  ⟨_, fun n => call_min2 (hcm n), fun Γ S σ H vs Q q r k => by
    obtain ⟨v, u, rfl, r1, r2⟩ := all2_two r
    cases (show v = .int i from r1)
    cases (show u = .int j from r2)
    refine ⟨i, j, rfl, k _ S H (Same.refl _) q ?_⟩
    show V.int (if j < i then j else i) = V.int (min i j)
    congr 1
    omega⟩
theorem cl_intB {k : Bool} : ClJ X K E (.type "int") R [dB k] (dI (if k then 1 else 0)) :=
  ⟨_, fun n => call_int1, fun Γ S σ H vs Q q r k' => by
    obtain ⟨v, rfl, r1⟩ := all2_one r
    cases (show v = .bl k from r1)
    exact .inr ⟨k, rfl, k' _ S H (Same.refl _) q rfl⟩⟩
theorem cl_str (h : i.natAbs.log2 < 1920) : ClJ X K E (.type "str") R [dI i] (dS (toString i)) :=
  ⟨_, fun n => call_str_int, fun Γ S σ H vs Q q r k' => by
    obtain ⟨v, rfl, r1⟩ := all2_one r
    cases (show v = .int i from r1)
    exact ⟨i, rfl, h, k' _ S H (Same.refl _) q rfl⟩⟩
theorem cl_intS {n : Int} (h : PySem.intText? x = some n) (hl : x.length ≤ 640) : ClJ X K E (.type "int") R [dS x] (dI n) :=
  ⟨_, fun n => call_int_str, fun Γ S σ H vs Q q r k' => by
    obtain ⟨v, rfl, r1⟩ := all2_one r
    cases (show v = .str x from r1)
    exact ⟨x, n, rfl, h, hl, k' _ S H (Same.refl _) q rfl⟩⟩
theorem da_ints : ∀ {ds : List PyData} {vs : List V}, ds.all isI = true → DaAll K S vs ds → vs = (ds.map dint).map V.int
  | _, _, _, .nil => rfl
  | _, _, h, .cons g t => by
    obtain ⟨h1, h2⟩ := Bool.and_eq_true_iff.mp (show (_ && _) = true from h)
    rw [da_ints h2 t]
    cases g <;> first | rfl | cases h1
theorem da_strs : ∀ {ds : List PyData} {vs : List V}, ds.all isS = true → DaAll K S vs ds → vs = (ds.map dstr).map V.str
  | _, _, _, .nil => rfl
  | _, _, h, .cons g t => by
    obtain ⟨h1, h2⟩ := Bool.and_eq_true_iff.mp (show (_ && _) = true from h)
    rw [da_strs h2 t]
    cases g <;> first | rfl | cases h1
theorem da_bools : ∀ {ds : List PyData} {vs : List V}, ds.all isB = true → DaAll K S vs ds → vs = (ds.map dbool).map V.bl
  | _, _, _, .nil => rfl
  | _, _, h, .cons g t => by
    obtain ⟨h1, h2⟩ := Bool.and_eq_true_iff.mp (show (_ && _) = true from h)
    rw [da_bools h2 t]
    cases g <;> first | rfl | cases h1
theorem da_of_ints (ns : List Int) : DaAll K S (ns.map V.int) (ns.map PyData.int) := by
  induction ns with
  | nil => exact .nil
  | cons n ns ih => exact .cons (.int n) ih
theorem da_of_strs (ns : List Str) : DaAll K S (ns.map V.str) (ns.map PyData.str) := by
  induction ns with
  | nil => exact .nil
  | cons n ns ih => exact .cons (.str n) ih
theorem cl_sum (F : Fam X P w K mg base A N) {ds : List PyData} (h : LV K R s1 ds) (ha : ds.all isI = true) (hcm : ∀ i, (X i).calm = true := by exact fun _ => rfl) : ClJ X K E (.builtin "sum") R [s1] (dI ((ds.map dint).sum)) :=
  ⟨rSum K, fun n => by rw [← F.fK n]; exact cr_sum (hcm n), fun Γ S σ H vs Q q r k => by
    obtain ⟨v, rfl, r1⟩ := all2_one r
    obtain ⟨p, us, rfl, h1, h2⟩ := h E Γ S σ H v q r1
    rw [da_ints ha h2] at h1
    exact ⟨p, _, rfl, SqL.of h1, k _ S H (Same.refl _) q rfl⟩⟩
theorem cl_all (F : Fam X P w K mg base A N) {ds : List PyData} (h : LV K R s1 ds) (ha : ds.all isB = true) (hcm : ∀ i, (X i).calm = true := by exact fun _ => rfl) : ClJ X K E (.builtin "all") R [s1] (dB ((ds.map dbool).all id)) :=
  ⟨rAll K, fun n => by rw [← F.fK n]; exact cr_all (hcm n), fun Γ S σ H vs Q q r k => by
    obtain ⟨v, rfl, r1⟩ := all2_one r
    obtain ⟨p, us, rfl, h1, h2⟩ := h E Γ S σ H v q r1
    rw [da_bools ha h2] at h1
    exact ⟨p, _, rfl, SqL.of h1, k _ S H (Same.refl _) q rfl⟩⟩
/-- list(xs): a new one -/
theorem cl_list (F : Fam X P w K mg base A N) {ds : List PyData} (h : LV K R s1 ds) : ClN X K E (.type "list") R [s1] (fun p : Addr => R ++ [rL p ds]) (fun p => sv (.ref p)) :=
  ⟨fun xs H Q => ∃ p ys, xs = [.ref p] ∧ (SqL K H p ys ∨ SqT K H p ys) ∧ ∀ l, H l = none → Q (.ref l) (upd H l (.lst ys)), fun n => by rw [← F.fK n]; exact call_list_of, fun Γ S σ H vs Q q r k => by
    obtain ⟨v, rfl, r1⟩ := all2_one r
    obtain ⟨p, us, rfl, h1, h2⟩ := h E Γ S σ H v q r1
    exact ⟨p, us, rfl, .inl (SqL.of h1), fun l hl => k l _ S _ (Same.refl _) (q.mine hl ⟨us, rfl, h2⟩) rfl⟩⟩
/-! ### isinstance -/
/-- the built-in type of what s says -/
def TyS (K : PySem.W.Frag) (R : List Res) (s : Sl) (T : String) : Prop := ∀ (E : Ent) (Γ : Slots) (S : Hp) (σ : L2.St) (H : Hp) (v : V), SR K E Γ R S σ H → s.r K S v → TyX K H v (.type T)
theorem ty_int : TyS K R (dI i) "int" := fun E Γ S σ H v q r => by cases (show v = .int i from r); exact .base (.int i)
theorem ty_str : TyS K R (dS x) "str" := fun E Γ S σ H v q r => by cases (show v = .str x from r); exact .base (.str x)
theorem ty_bool {k : Bool} : TyS K R (dB k) "bool" := fun E Γ S σ H v q r => by cases (show v = .bl k from r); exact .base (.bl k)
theorem ty_none : TyS K R dN "NoneType" := fun E Γ S σ H v q r => by cases (show v = .non from r); exact .base .non
theorem ty_list {ds : List PyData} (h : LV K R s ds) : TyS K R s "list" := fun E Γ S σ H v q r => by
  obtain ⟨p, vs, rfl, h1, _⟩ := h E Γ S σ H v q r
  exact .base (.lst h1)
theorem sqt_ty {p : Addr} {vs : List V} (h : SqT K H p vs) : TyX K H (.ref p) (.type "tuple") := by
  rcases h with (h | ⟨o, h⟩) | ⟨o, its, n, h, hc, _⟩
  · exact .base (.tup h)
  · exact .fTuple h
  · exact .kTuple h hc
theorem ty_tup {ds : List PyData} : TyS K R (sd (.tuple ds)) "tuple" := fun E Γ S σ H v q r => by
  cases r with
  | tup h _ => exact sqt_ty (same_t q.sub h)
theorem ty_stup {ss : List Sl} : TyS K R (stup ss) "tuple" := fun E Γ S σ H v q ⟨p, vs, e, h, _⟩ => by
  subst e
  exact sqt_ty (same_t q.sub h)
theorem ev_isi (F : Fam X P w K mg base A N) {T U : String} {cls : Str} {p1 : Pos} {k : Bool} (hm : mg "isinstance" = none) (hc : mg cls = none) (hv : bootBuiltins cls = some (.type U)) (ha : EvJ X K E Γ R a R s1) (ht : TyS K R s1 T) (hk : kitB T U = some k := by decide +kernel)
    (hg : ∀ i, Gl (X i) "isinstance" := by exact fun _ => rfl) (hg2 : ∀ i, Gl (X i) cls := by exact fun _ => rfl) (he : ∀ i, starEach [a, .Name cls p1] (X i).env = (false, eval a (X i).env) :: starEach [.Name cls p1] (X i).env := by exact fun _ => rfl)
    (he2 : ∀ i, starEach [.Name cls p1] (X i).env = (false, eval (.Name cls p1) (X i).env) :: starEach [] (X i).env := by exact fun _ => rfl) (hpl : ∀ i, (backTo pos (starEach [.Name cls p1] (X i).env)).any (·.1) = false := by exact fun _ => rfl) (hn : cls ≠ "__name__" := by decide) (hd : (cls == ("__debug__" : Str)) = false := by decide) :
    EvJ X K E Γ R (.Call (.Name "isinstance" p') [a, .Name cls p1] [] pos) R (dB k) := by
  refine ev_callB F hm PyProof.Rows.boot_isinstance (ar_cons ha (ar_cons (ev_bltn F hc hv (v := .ty U) rfl hg2 hn hd) ar_nil he2) he) ⟨rIsi K, fun n => by rw [← F.fK n]; exact call_isi, fun Γ S σ H vs Q q r k' => ?_⟩ hg he hpl
  obtain ⟨v, u, rfl, r1, r2⟩ := all2_two r
  cases (show u = .ty U from r2)
  exact ⟨v, .ty U, .type T, .type U, k, rfl, .ty U, ht E Γ S σ H v q r1, kit_ty hk, k' _ S H (Same.refl _) q rfl⟩

/-! ### methods of built-in types -/
variable (X) (K) (E) in
def MtJ (T id : String) (R : List Res) (s1 : Sl) (ss : List Sl) (R' : List Res) (s3 : Sl) : Prop := ∃ r : V → List V → Hp → VK → Prop, (∀ i, MtR (X i) id r) ∧ (∀ Γ S σ H x, SR K E Γ R S σ H → s1.r K S x → tyV K T x H) ∧
  ∀ Γ S σ H x xs (Q : VK), SR K E Γ R S σ H → s1.r K S x → All2 (fun (s : Sl) v => s.r K S v) ss xs → Kont K E Γ R' σ S s3 Q → r x xs H Q
theorem ev_mt {T id : String} {name : Str} {apos : Pos} {ss : List Sl} (F : Fam X P w K mg base A N) (pa : PlainAttrs T) (slot : Slot T name id) (hty : typeOf (.builtin id) = pure (.type "method_descriptor")) (ho : EvJ X K E Γ R o R s1) (ha : ArJ X K E Γ R (e :: es) R ss) (hm : MtJ X K E T id R s1 ss R' s3)
    (hbase : ∀ i, attributeBase o name (X i).env (eval o (X i).env) = eval o (X i).env := by exact fun _ => rfl)
    (hfew : ∀ i, ((backTo pos (starEach (e :: es) (X i).env)).all (fun x => !x.1) && (backToKw pos (keywordEach [] (X i).env)).all (fun x => x.1.isSome) && decide ((e :: es).length + ([] : List Keyword).length + (if ([] : List Keyword).isEmpty then 0 else 1) < 30)) = true := by exact fun _ => rfl)
    (hline : (apos.endLine == pos.line) = true := by rfl) (hs : ∀ i, starEach (e :: es) (X i).env = (false, eval e (X i).env) :: starEach es (X i).env := by exact fun _ => rfl) (hplain : ∀ i, (backTo pos (starEach es (X i).env)).any (·.1) = false := by exact fun _ => rfl) :
    EvJ X K E Γ R (.Call (.Attribute o name apos) (e :: es) [] pos) R' s3 := by
  obtain ⟨to, o1, o2⟩ := ho
  obtain ⟨ta, a1, a2⟩ := ha
  obtain ⟨r, m1, m2, m3⟩ := hm
  refine ⟨tBM K T r to ta, fun i => by rw [← F.fK i]; exact pe_bm pa slot hty (m1 i) (o1 i) (a1 i) (hbase i) (hfew i) hline (hs i) (hplain i), fun S σ H Q q k => o2 S σ H _ q fun v S1 H1 e1 q1 r1 => ⟨m2 Γ S1 σ H1 v q1 r1, ?_⟩⟩
  exact a2 S1 σ H1 _ q1 fun vs S2 H2 e2 q2 r2 => m3 Γ S2 σ H2 v vs Q q2 (s1.mono e2 r1) r2 fun u S3 H3 e3 q3 r3 => k u S3 H3 ((e1.trans e2).trans e3) q3 r3
theorem ev_mt0 {T id : String} {name : Str} {apos : Pos} (F : Fam X P w K mg base A N) (pa : PlainAttrs T) (slot : Slot T name id) (hty : typeOf (.builtin id) = pure (.type "method_descriptor")) (ho : EvJ X K E Γ R o R s1) (hm : MtJ X K E T id R s1 [] R' s3)
    (hbase : ∀ i, attributeBase o name (X i).env (eval o (X i).env) = eval o (X i).env := by exact fun _ => rfl) (hline : (apos.endLine == pos.line) = true := by rfl) :
    EvJ X K E Γ R (.Call (.Attribute o name apos) [] [] pos) R' s3 := by
  obtain ⟨to, o1, o2⟩ := ho
  obtain ⟨r, m1, m2, m3⟩ := hm
  exact ⟨tBM0 K T r to, fun i => by rw [← F.fK i]; exact pe_bm0 pa slot hty (m1 i) (o1 i) (hbase i) hline, fun S σ H Q q k => o2 S σ H _ q fun v S1 H1 e1 q1 r1 => ⟨m2 Γ S1 σ H1 v q1 r1, m3 Γ S1 σ H1 v [] Q q1 r1 .nil fun u S3 H3 e3 q3 r3 => k u S3 H3 (e1.trans e3) q3 r3⟩⟩
theorem tyL {ds : List PyData} (h : LV K R s1 ds) {Γ : Slots} {S H : Hp} {σ : L2.St} {v : V} (q : SR K E Γ R S σ H) (r : s1.r K S v) : tyV K "list" v H := by
  obtain ⟨p, vs, rfl, h1, _⟩ := h E Γ S σ H v q r
  exact Or.inl ⟨rfl, vs, SqL.of h1⟩
theorem SR.cellL (q : SR K E Γ R S σ H) (k : Nat) {p : Addr} {ds : List PyData} (h : R[k]? = some (rL p ds)) : ∃ vs, H p = some (.lst vs) ∧ DaAll K S vs ds := by
  obtain ⟨p', vs, e, h1, h2⟩ := lv_o k h E Γ S σ H _ q rfl
  cases e
  exact ⟨vs, h1, h2⟩
/-- xs.append(v), xs one's own, of data -/
theorem ev_append (F : Fam X P w K mg base A N) (k : Nat) {p : Addr} {ds : List PyData} {d : PyData} {apos : Pos} (ho : EvJ X K E Γ R o R (sv (.ref p))) (ha : EvJ X K E Γ R e R s2) (hd : ∀ K S v, s2.r K S v → Da K S v d) (hk : R[k]? = some (rL p ds)) (hz : ds.length < 10000000)
    (hbase : ∀ i, attributeBase o "append" (X i).env (eval o (X i).env) = eval o (X i).env := by exact fun _ => rfl)
    (hfew : ∀ i, ((backTo pos (starEach [e] (X i).env)).all (fun x => !x.1) && (backToKw pos (keywordEach [] (X i).env)).all (fun x => x.1.isSome) && decide ([e].length + ([] : List Keyword).length + (if ([] : List Keyword).isEmpty then 0 else 1) < 30)) = true := by exact fun _ => rfl)
    (hline : (apos.endLine == pos.line) = true := by rfl) (hs : ∀ i, starEach [e] (X i).env = (false, eval e (X i).env) :: starEach [] (X i).env := by exact fun _ => rfl) (hplain : ∀ i, (backTo pos (starEach [] (X i).env)).any (·.1) = false := by exact fun _ => rfl) :
    EvJ X K E Γ R (.Call (.Attribute o "append" apos) [e] [] pos) (R.set k (rL p (ds ++ [d]))) dN := by
  refine ev_mt F PySem.F.plainAttrs_list PySem.F.slot_list_append PySem.F.type_list_append ho (ar_cons ha ar_nil hs) ⟨rAppend, fun _ => mt_append, fun Γ S σ H x q r => tyL (lv_o k hk) q r, fun Γ S σ H x xs Q q r1 r2 k' => ?_⟩ hbase hfew hline hs hplain
  obtain ⟨v, rfl, r3⟩ := all2_one r2
  cases (show x = .ref p from r1)
  obtain ⟨vs, h1, h2⟩ := q.cellL k hk
  refine ⟨p, vs, v, rfl, rfl, h1, ?_, k' _ S _ (Same.refl _) (q.putL k hk (daAll_app h2 (.cons (hd K S v r3) .nil))) rfl⟩
  have := daAll_len h2
  have : (sizeLine : Nat) = 16777216 := sizeLine_eq
  omega
/-- ''.join(xs) of texts -/
theorem ev_join (F : Fam X P w K mg base A N) {ds : List PyData} {apos : Pos} (ho : EvJ X K E Γ R o R (dS x)) (ha : EvJ X K E Γ R e R s2) (hl : LV K R s2 ds) (hs : ds.all isS = true) (hz : ((ds.map dstr).map (·.length)).sum + ds.length * x.length ≤ 16777216)
    (hbase : ∀ i, attributeBase o "join" (X i).env (eval o (X i).env) = eval o (X i).env := by exact fun _ => rfl)
    (hfew : ∀ i, ((backTo pos (starEach [e] (X i).env)).all (fun x => !x.1) && (backToKw pos (keywordEach [] (X i).env)).all (fun x => x.1.isSome) && decide ([e].length + ([] : List Keyword).length + (if ([] : List Keyword).isEmpty then 0 else 1) < 30)) = true := by exact fun _ => rfl)
    (hline : (apos.endLine == pos.line) = true := by rfl) (hst : ∀ i, starEach [e] (X i).env = (false, eval e (X i).env) :: starEach [] (X i).env := by exact fun _ => rfl) (hplain : ∀ i, (backTo pos (starEach [] (X i).env)).any (·.1) = false := by exact fun _ => rfl) :
    EvJ X K E Γ R (.Call (.Attribute o "join" apos) [e] [] pos) R (dS (Txt.join x (ds.map dstr))) := by
  refine ev_mt F PySem.F.plainAttrs_str PySem.F.slot_str_join PySem.F.type_str_join ho (ar_cons ha ar_nil hst) ⟨fun v xs H Q => ∃ a p, ∃ ys : List Str, v = .str a ∧ xs = [.ref p] ∧ (SqL K H p (ys.map V.str) ∨ SqT K H p (ys.map V.str)) ∧ (ys.map (·.length)).sum + ys.length * a.length ≤ 16777216 ∧ Q (.str (Txt.join a ys)) H,
    fun n => by rw [← F.fK n]; exact mt_join, fun Γ S σ H v q r => by cases (show v = .str x from r); rfl, fun Γ S σ H v xs Q q r1 r2 k' => ?_⟩ hbase hfew hline hst hplain
  obtain ⟨u, rfl, r3⟩ := all2_one r2
  cases (show v = .str x from r1)
  obtain ⟨p, vs, rfl, h1, h2⟩ := hl E Γ S σ H u q r3
  rw [da_strs hs h2] at h1
  exact ⟨x, p, ds.map dstr, rfl, rfl, .inl (SqL.of h1), by rw [List.length_map]; exact hz, k' _ S H (Same.refl _) q rfl⟩
/-- s.find(t) -/
theorem ev_find (F : Fam X P w K mg base A N) {apos : Pos} (ho : EvJ X K E Γ R o R (dS x)) (ha : EvJ X K E Γ R e R (dS y))
    (hbase : ∀ i, attributeBase o "find" (X i).env (eval o (X i).env) = eval o (X i).env := by exact fun _ => rfl)
    (hfew : ∀ i, ((backTo pos (starEach [e] (X i).env)).all (fun x => !x.1) && (backToKw pos (keywordEach [] (X i).env)).all (fun x => x.1.isSome) && decide ([e].length + ([] : List Keyword).length + (if ([] : List Keyword).isEmpty then 0 else 1) < 30)) = true := by exact fun _ => rfl)
    (hline : (apos.endLine == pos.line) = true := by rfl) (hst : ∀ i, starEach [e] (X i).env = (false, eval e (X i).env) :: starEach [] (X i).env := by exact fun _ => rfl) (hplain : ∀ i, (backTo pos (starEach [] (X i).env)).any (·.1) = false := by exact fun _ => rfl) :
    EvJ X K E Γ R (.Call (.Attribute o "find" apos) [e] [] pos) R (dI (Txt.find x y)) := by
  refine ev_mt F PySem.F.plainAttrs_str PySem.F.slot_str_find PySem.F.type_str_find ho (ar_cons ha ar_nil hst) ⟨_, fun n => mt_find, fun Γ S σ H v q r => by cases (show v = .str x from r); rfl, fun Γ S σ H v xs Q q r1 r2 k' => ?_⟩ hbase hfew hline hst hplain
  obtain ⟨u, rfl, r3⟩ := all2_one r2
  cases (show v = .str x from r1)
  cases (show u = .str y from r3)
  exact ⟨x, y, rfl, rfl, k' _ S H (Same.refl _) q rfl⟩

/-! ### slices -/
variable (X) (K) (E) in
def PoJ (Γ : Slots) (R : List Res) (e : Option Expr) (o : Option Int) : Prop := ∃ t : TO, (∀ i, PO (X i) e t) ∧ ∀ S σ H (Q : Option Int → Hp → Prop), SR K E Γ R S σ H → (∀ S' H', Same S S' → SR K E Γ R S' σ H' → Q o H') → t σ H Q
theorem po_no : PoJ X K E Γ R none none := ⟨tNoPart, fun _ => po_none, fun S σ H Q q k => k S H (Same.refl _) q⟩
theorem po_at (h : EvJ X K E Γ R e R (dI i)) : PoJ X K E Γ R (some e) (some i) := by
  obtain ⟨t, h1, h2⟩ := h
  exact ⟨tPart t, fun n => po_some (h1 n), fun S σ H Q q k => h2 S σ H _ q fun v S1 H1 e1 q1 r1 => ⟨i, r1, k S1 H1 e1 q1⟩⟩
variable {lo hi : Option Expr} {ol oh : Option Int} {p2 : Pos}
/-- what a slice gives -/
def cutD {α : Type} (xs : List α) (lo hi : Option Int) : List α := (xs.drop (HT.sIx xs.length 0 lo)).take (HT.sIx xs.length xs.length hi - HT.sIx xs.length 0 lo)
theorem daAll_cut {vs : List V} {ds : List PyData} (lo hi : Option Int) (h : DaAll K S vs ds) : DaAll K S (cutV vs lo hi) (cutD ds lo hi) := by
  unfold cutV cutD
  rw [daAll_len h]
  exact daAll_take _ (daAll_drop _ h)
theorem el_slice (F : Fam X P w K mg base A N) {ds : List PyData} (he : EvJ X K E Γ R e R s1) (hl : LV K R s1 ds) (h1 : PoJ X K E Γ R lo ol) (h2 : PoJ X K E Γ R hi oh) : EvL X K E Γ R (.Subscript e (.Slice lo hi none p2) pos) R (cutD ds ol oh) := by
  obtain ⟨t, a1, a2⟩ := he
  obtain ⟨tl, b1, b2⟩ := h1
  obtain ⟨th, c1, c2⟩ := h2
  refine ⟨tSl (rSlL K) t tl th, fun n => pe_slice (by rw [← F.fK n]; exact sl_list) (a1 n) (b1 n) (c1 n), fun S σ H Q q k => a2 S σ H _ q fun v S1 H1 e1 q1 r1 => b2 S1 σ H1 _ q1 fun S2 H2 e2 q2 => c2 S2 σ H2 _ q2 fun S3 H3 e3 q3 => ?_⟩
  obtain ⟨p, vs, rfl, g1, g2⟩ := hl E Γ S3 σ H3 v q3 (s1.mono (e2.trans e3) r1)
  exact ⟨p, vs, rfl, SqL.of g1, fun l hl => k l _ S3 _ ((e1.trans e2).trans e3) (q3.mine hl ⟨_, rfl, daAll_cut ol oh g2⟩) rfl⟩
theorem ev_sliceS (he : EvJ X K E Γ R e R (dS x)) (h1 : PoJ X K E Γ R lo ol) (h2 : PoJ X K E Γ R hi oh) (hz : x.length ≤ sizeLine) : EvJ X K E Γ R (.Subscript e (.Slice lo hi none p2) pos) R (dS (cutS x ol oh)) := by
  obtain ⟨t, a1, a2⟩ := he
  obtain ⟨tl, b1, b2⟩ := h1
  obtain ⟨th, c1, c2⟩ := h2
  exact ⟨tSl rSlS t tl th, fun n => pe_slice sl_str (a1 n) (b1 n) (c1 n), fun S σ H Q q k => a2 S σ H _ q fun v S1 H1 e1 q1 r1 => b2 S1 σ H1 _ q1 fun S2 H2 e2 q2 => c2 S2 σ H2 _ q2 fun S3 H3 e3 q3 => ⟨x, r1, hz, k _ S3 H3 ((e1.trans e2).trans e3) q3 rfl⟩⟩
/-- xs[::-1] -/
theorem el_rev (F : Fam X P w K mg base A N) {ds : List PyData} {k1 : Nat} {q1 q2 : Pos} (he : EvJ X K E Γ R e R s1) (hl : LV K R s1 ds) : EvL X K E Γ R (.Subscript e (.Slice none none (some (.UnaryOp .USub (.Constant (.int 1) k1 q1) q2)) p2) pos) R ds.reverse := by
  obtain ⟨t, a1, a2⟩ := he
  refine ⟨tRevL K t, fun n => by rw [← F.fK n]; exact pe_revL (a1 n), fun S σ H Q q k => a2 S σ H _ q fun v S1 H1 e1 q1 r1 => ?_⟩
  obtain ⟨p, vs, rfl, g1, g2⟩ := hl E Γ S1 σ H1 v q1 r1
  refine ⟨p, vs, rfl, SqL.of g1, fun l hl => k l _ S1 _ e1 (q1.mine hl ⟨_, rfl, ?_⟩) rfl⟩
  have : ∀ {vs : List V} {ds : List PyData}, DaAll K S1 vs ds → DaAll K S1 vs.reverse ds.reverse := by
    intro vs ds h
    induction ds generalizing vs with
    | nil => cases h; exact .nil
    | cons d ds ih =>
      cases h with
      | cons p t => rw [List.reverse_cons, List.reverse_cons]; exact daAll_app (ih t) (.cons p .nil)
  exact this g2
/-! ### lists by operators -/
theorem bn_cat {ds es' : List PyData} (h1 : LV K R s1 ds) (h2 : LV K R s2 es') (hz : ds.length + es'.length ≤ 10000000) : BinRN X K E (binaryOp .Add) R s1 s2 (fun p : Addr => R ++ [rL p (ds ++ es')]) (fun p => sv (.ref p)) :=
  ⟨rCat, fun _ => op_cat, fun Γ S σ H x y Q q r1 r2 k => by
    obtain ⟨p, vs, rfl, g1, g2⟩ := h1 E Γ S σ H x q r1
    obtain ⟨p2, us, rfl, g3, g4⟩ := h2 E Γ S σ H y q r2
    refine ⟨p, p2, vs, us, rfl, rfl, g1, g3, ?_, fun l hl => k l _ S _ (Same.refl _) (q.mine hl ⟨_, rfl, daAll_app g2 g4⟩) rfl⟩
    have : (sizeLine : Nat) = 16777216 := sizeLine_eq
    rw [daAll_len g2, daAll_len g4]
    omega⟩
/-- data compared -/
theorem br_eqD (F : Fam X P w K mg base A N) (hu : A.units + 64 < cLine) {d d' : PyData} (h1 : ∀ (Γ : Slots) S σ H v, SR K E Γ R S σ H → s1.r K S v → Dp K H v d) (h2 : ∀ (Γ : Slots) S σ H v, SR K E Γ R S σ H → s2.r K S v → Dp K H v d') (hs1 : SeqAt.shaped d = true) (hs2 : SeqAt.shaped d' = true) : BinR X K E (compareOp .Eq) R s1 s2 (dB (PyData.eqv d d')) :=
  ⟨rEqD K, fun n => by rw [← F.fK n]; exact op_eqD (by rw [F.fA n]; exact hu), fun Γ S σ H x y Q q r1 r2 k => ⟨d, d', h1 Γ S σ H x q r1, h2 Γ S σ H y q r2, hs1, hs2, k _ S H (Same.refl _) q rfl⟩⟩
theorem br_neD (F : Fam X P w K mg base A N) (hu : A.units + 64 < cLine) {d d' : PyData} (h1 : ∀ (Γ : Slots) S σ H v, SR K E Γ R S σ H → s1.r K S v → Dp K H v d) (h2 : ∀ (Γ : Slots) S σ H v, SR K E Γ R S σ H → s2.r K S v → Dp K H v d') (hs1 : SeqAt.shaped d = true) (hs2 : SeqAt.shaped d' = true) : BinR X K E (compareOp .NotEq) R s1 s2 (dB (!PyData.eqv d d')) :=
  ⟨rNeD K, fun n => by rw [← F.fK n]; exact op_neD (by rw [F.fA n]; exact hu), fun Γ S σ H x y Q q r1 r2 k => ⟨d, d', h1 Γ S σ H x q r1, h2 Γ S σ H y q r2, hs1, hs2, k _ S H (Same.refl _) q rfl⟩⟩
theorem dp_d {d : PyData} : ∀ (Γ : Slots) S σ H v, SR K E Γ R S σ H → (sd d).r K S v → Dp K H v d := fun Γ S σ H v q r => da_dp (da_same q.sub r)
theorem dp_ad {d : PyData} (h : ∀ K S v, s.r K S v → Da K S v d) : ∀ (Γ : Slots) S σ H v, SR K E Γ R S σ H → s.r K S v → Dp K H v d := fun Γ S σ H v q r => da_dp (da_same q.sub (h K S v r))
theorem dp_o (k : Nat) {p : Addr} {ds : List PyData} (h : R[k]? = some (rL p ds)) : ∀ (Γ : Slots) S σ H v, SR K E Γ R S σ H → (sv (.ref p)).r K S v → Dp K H v (.list ds) := fun Γ S σ H v q r => by
  cases (show v = .ref p from r)
  obtain ⟨vs, h1, h2⟩ := q.cellL k h
  exact .lst (SqL.of h1) (daAll_dp (daAll_same q.sub h2))

/-! ### a def's body, by the number of its parameters -/
section
variable {xn qual : Str} {st : Stmt} {fa : Addr} {fd : FuncData} {k : Nat} {α β γ δ ε : Type} {d1 : α → Sl} {d2 : β → Sl} {d3 : γ → Sl} {d4 : δ → Sl} {d5 : ε → Sl}
/-- what a def's body is asked -/
abbrev BodyOk (P : Program) (w : World) (K : PySem.W.Frag) (mg : Str → Option Value) (base : Heap) (N : List Str) (qual : Str) (st : Stmt) (fa : Addr) (k : Nat) {ν : Type} (as : List Sl) (Rn : ν → List Res) (res : ν → Sl) : Prop :=
  ∀ (cdv : Value) (A : Around) (outer : List Env) (s : Shared) (H S0 : Hp) (A0 : Addr → Prop) (E : XK) (Q : VK), Room k (A.deeper (envOfC qual (defScope st) s.heap.objs.size fa cdv)) → Fam (FX P w K mg base N qual st fa cdv A outer s H E) P w K mg base (A.deeper (envOfC qual (defScope st) s.heap.objs.size fa cdv)) N →
    RetOk K ⟨H, S0, A0⟩ Rn res Q → Blk (FX P w K mg base N qual st fa cdv A outer s H E) K ⟨H, S0, A0⟩ S0 (as.map some ++ List.replicate (N.length - as.length) none) [] (defBody st) { nx := fun _ H' => Q .non H', rt := Q }
variable (F : Fun K xn qual st fa fd) (Sc : FnScope N ps (defScope st))
include F Sc
theorem fn1 {pre : α → Prop} {res : α → Sl} (hl : ps.length = 1) (hb : ∀ x1, pre x1 → BodyOk P w K mg base N qual st fa k (ν := Unit) [d1 x1] (fun _ => []) (fun _ => res x1)) : FnOk P w K mg base CX0 (k + 1) fa fd ps (sp1 K pre d1 res) :=
  fn_ok F Sc (fun _ => hl.symm) fun i cdv A outer s H S0 A0 E Q hr hp hq => hb i hp cdv A outer s H S0 A0 E Q hr (fam_fx Sc) hq
theorem fn2 {pre : α → β → Prop} {res : α → β → Sl} (hl : ps.length = 2) (hb : ∀ x1 x2, pre x1 x2 → BodyOk P w K mg base N qual st fa k (ν := Unit) [d1 x1, d2 x2] (fun _ => []) (fun _ => res x1 x2)) : FnOk P w K mg base CX0 (k + 1) fa fd ps (sp2 K pre d1 d2 res) :=
  fn_ok F Sc (fun _ => hl.symm) fun i cdv A outer s H S0 A0 E Q hr hp hq => hb i.1 i.2 hp cdv A outer s H S0 A0 E Q hr (fam_fx Sc) hq
theorem fn3 {pre : α → β → γ → Prop} {res : α → β → γ → Sl} (hl : ps.length = 3) (hb : ∀ x1 x2 x3, pre x1 x2 x3 → BodyOk P w K mg base N qual st fa k (ν := Unit) [d1 x1, d2 x2, d3 x3] (fun _ => []) (fun _ => res x1 x2 x3)) : FnOk P w K mg base CX0 (k + 1) fa fd ps (sp3 K pre d1 d2 d3 res) :=
  fn_ok F Sc (fun _ => hl.symm) fun i cdv A outer s H S0 A0 E Q hr hp hq => hb i.1 i.2.1 i.2.2 hp cdv A outer s H S0 A0 E Q hr (fam_fx Sc) hq
theorem fn4 {pre : α → β → γ → δ → Prop} {res : α → β → γ → δ → Sl} (hl : ps.length = 4) (hb : ∀ x1 x2 x3 x4, pre x1 x2 x3 x4 → BodyOk P w K mg base N qual st fa k (ν := Unit) [d1 x1, d2 x2, d3 x3, d4 x4] (fun _ => []) (fun _ => res x1 x2 x3 x4)) : FnOk P w K mg base CX0 (k + 1) fa fd ps (sp4 K pre d1 d2 d3 d4 res) :=
  fn_ok F Sc (fun _ => hl.symm) fun i cdv A outer s H S0 A0 E Q hr hp hq => hb i.1 i.2.1 i.2.2.1 i.2.2.2 hp cdv A outer s H S0 A0 E Q hr (fam_fx Sc) hq
theorem fn5 {pre : α → β → γ → δ → ε → Prop} {res : α → β → γ → δ → ε → Sl} (hl : ps.length = 5) (hb : ∀ x1 x2 x3 x4 x5, pre x1 x2 x3 x4 x5 → BodyOk P w K mg base N qual st fa k (ν := Unit) [d1 x1, d2 x2, d3 x3, d4 x4, d5 x5] (fun _ => []) (fun _ => res x1 x2 x3 x4 x5)) : FnOk P w K mg base CX0 (k + 1) fa fd ps (sp5 K pre d1 d2 d3 d4 d5 res) :=
  fn_ok F Sc (fun _ => hl.symm) fun i cdv A outer s H S0 A0 E Q hr hp hq => hb i.1 i.2.1 i.2.2.1 i.2.2.2.1 i.2.2.2.2 hp cdv A outer s H S0 A0 E Q hr (fam_fx Sc) hq
theorem fnL1 {pre : α → Prop} {res : α → List PyData} (hl : ps.length = 1) (hb : ∀ x1, pre x1 → BodyOk P w K mg base N qual st fa k (ν := Addr) [d1 x1] (fun p => [rL p (res x1)]) (fun p => sv (.ref p))) : FnOk P w K mg base CX0 (k + 1) fa fd ps (spL1 K pre d1 res) :=
  fn_ok F Sc (fun _ => hl.symm) fun i cdv A outer s H S0 A0 E Q hr hp hq => hb i hp cdv A outer s H S0 A0 E Q hr (fam_fx Sc) hq
theorem fnL2 {pre : α → β → Prop} {res : α → β → List PyData} (hl : ps.length = 2) (hb : ∀ x1 x2, pre x1 x2 → BodyOk P w K mg base N qual st fa k (ν := Addr) [d1 x1, d2 x2] (fun p => [rL p (res x1 x2)]) (fun p => sv (.ref p))) : FnOk P w K mg base CX0 (k + 1) fa fd ps (spL2 K pre d1 d2 res) :=
  fn_ok F Sc (fun _ => hl.symm) fun i cdv A outer s H S0 A0 E Q hr hp hq => hb i.1 i.2 hp cdv A outer s H S0 A0 E Q hr (fam_fx Sc) hq
theorem fnL3 {pre : α → β → γ → Prop} {res : α → β → γ → List PyData} (hl : ps.length = 3) (hb : ∀ x1 x2 x3, pre x1 x2 x3 → BodyOk P w K mg base N qual st fa k (ν := Addr) [d1 x1, d2 x2, d3 x3] (fun p => [rL p (res x1 x2 x3)]) (fun p => sv (.ref p))) : FnOk P w K mg base CX0 (k + 1) fa fd ps (spL3 K pre d1 d2 d3 res) :=
  fn_ok F Sc (fun _ => hl.symm) fun i cdv A outer s H S0 A0 E Q hr hp hq => hb i.1 i.2.1 i.2.2 hp cdv A outer s H S0 A0 E Q hr (fam_fx Sc) hq
theorem fnL4 {pre : α → β → γ → δ → Prop} {res : α → β → γ → δ → List PyData} (hl : ps.length = 4) (hb : ∀ x1 x2 x3 x4, pre x1 x2 x3 x4 → BodyOk P w K mg base N qual st fa k (ν := Addr) [d1 x1, d2 x2, d3 x3, d4 x4] (fun p => [rL p (res x1 x2 x3 x4)]) (fun p => sv (.ref p))) : FnOk P w K mg base CX0 (k + 1) fa fd ps (spL4 K pre d1 d2 d3 d4 res) :=
  fn_ok F Sc (fun _ => hl.symm) fun i cdv A outer s H S0 A0 E Q hr hp hq => hb i.1 i.2.1 i.2.2.1 i.2.2.2 hp cdv A outer s H S0 A0 E Q hr (fam_fx Sc) hq
end
/-- a return, of a scalar; of a new list -/
theorem retJ {res : Sl} {Q : VK} (hq : RetOk (ν := Unit) K E (fun _ => []) (fun _ => res) Q) (h : ∀ K S v, s.r K S v → res.r K S v) : ∀ S σ H v, SR K E Γ R1 S σ H → s.r K S v → Q v H := fun S σ H v q r => hq () Γ S σ H v (SR.drop (R := []) q) (h K S v r)
theorem retE {res : Sl} {Q : VK} (hq : RetOk (ν := Unit) K E (fun _ => []) (fun _ => res) Q) (h : s = res) : ∀ S σ H v, SR K E Γ R1 S σ H → s.r K S v → Q v H := fun S σ H v q r => hq () Γ S σ H v (SR.drop (R := []) q) (h ▸ r)
theorem retL {ds ds' : List PyData} {Q : VK} (hq : RetOk (ν := Addr) K E (fun p => [rL p ds]) (fun p => sv (.ref p)) Q) (h : ds' = ds) : ∀ p S σ H v, SR K E Γ ([] ++ [rL p ds']) S σ H → (sv (.ref p)).r K S v → Q v H := fun p S σ H v q r => by
  subst h
  exact hq p Γ S σ H v q r
end
end SL

/-! small things for the walk's lines -/
namespace SL
open PySem PySem.Spec PyProof.Rows L2
theorem kit_int_int : kitB "int" "int" = some true := by decide +kernel
theorem kit_int_str : kitB "int" "str" = some false := by decide +kernel
theorem kit_int_bool : kitB "int" "bool" = some false := by decide +kernel
theorem kit_int_list : kitB "int" "list" = some false := by decide +kernel
theorem kit_int_tuple : kitB "int" "tuple" = some false := by decide +kernel
theorem kit_int_dict : kitB "int" "dict" = some false := by decide +kernel
theorem kit_str_int : kitB "str" "int" = some false := by decide +kernel
theorem kit_str_str : kitB "str" "str" = some true := by decide +kernel
theorem kit_str_bool : kitB "str" "bool" = some false := by decide +kernel
theorem kit_str_list : kitB "str" "list" = some false := by decide +kernel
theorem kit_str_tuple : kitB "str" "tuple" = some false := by decide +kernel
theorem kit_str_dict : kitB "str" "dict" = some false := by decide +kernel
theorem kit_bool_int : kitB "bool" "int" = some true := by decide +kernel
theorem kit_bool_str : kitB "bool" "str" = some false := by decide +kernel
theorem kit_bool_bool : kitB "bool" "bool" = some true := by decide +kernel
theorem kit_bool_list : kitB "bool" "list" = some false := by decide +kernel
theorem kit_bool_tuple : kitB "bool" "tuple" = some false := by decide +kernel
theorem kit_bool_dict : kitB "bool" "dict" = some false := by decide +kernel
theorem kit_NoneType_int : kitB "NoneType" "int" = some false := by decide +kernel
theorem kit_NoneType_str : kitB "NoneType" "str" = some false := by decide +kernel
theorem kit_NoneType_bool : kitB "NoneType" "bool" = some false := by decide +kernel
theorem kit_NoneType_list : kitB "NoneType" "list" = some false := by decide +kernel
theorem kit_NoneType_tuple : kitB "NoneType" "tuple" = some false := by decide +kernel
theorem kit_NoneType_dict : kitB "NoneType" "dict" = some false := by decide +kernel
theorem kit_list_int : kitB "list" "int" = some false := by decide +kernel
theorem kit_list_str : kitB "list" "str" = some false := by decide +kernel
theorem kit_list_bool : kitB "list" "bool" = some false := by decide +kernel
theorem kit_list_list : kitB "list" "list" = some true := by decide +kernel
theorem kit_list_tuple : kitB "list" "tuple" = some false := by decide +kernel
theorem kit_list_dict : kitB "list" "dict" = some false := by decide +kernel
theorem kit_tuple_int : kitB "tuple" "int" = some false := by decide +kernel
theorem kit_tuple_str : kitB "tuple" "str" = some false := by decide +kernel
theorem kit_tuple_bool : kitB "tuple" "bool" = some false := by decide +kernel
theorem kit_tuple_list : kitB "tuple" "list" = some false := by decide +kernel
theorem kit_tuple_tuple : kitB "tuple" "tuple" = some true := by decide +kernel
theorem kit_tuple_dict : kitB "tuple" "dict" = some false := by decide +kernel
theorem kit_dict_int : kitB "dict" "int" = some false := by decide +kernel
theorem kit_dict_str : kitB "dict" "str" = some false := by decide +kernel
theorem kit_dict_bool : kitB "dict" "bool" = some false := by decide +kernel
theorem kit_dict_list : kitB "dict" "list" = some false := by decide +kernel
theorem kit_dict_tuple : kitB "dict" "tuple" = some false := by decide +kernel
theorem kit_dict_dict : kitB "dict" "dict" = some true := by decide +kernel
section
variable {ι : Type} {X : ι → Cx} {K : PySem.W.Frag} {E : Ent} {B : Hp} {Γ Γ' : Slots} {R R' R1 R2' R3 : List Res} {a b c e o : Expr} {es : List Expr} {pos p' : Pos} {s s1 s2 s3 : Sl}
  {P : Program} {w : World} {mg : Str → Option Value} {base : Heap} {A : Around} {N : List Str} {rest sts : List Stmt} {D : Ends} {S S' H H' : Hp} {σ σ' : L2.St} {f : Str} {ps : List Str} {i j : Int} {x y : Str}
theorem ev_pow (n : Int) (ha : EvJ X K E Γ R a R1 (dI i)) (hb : EvJ X K E Γ R1 b R2' (dI j)) (hc : CPow i j := by refine ⟨?_, ?_, ?_⟩ <;> decide) (hn : i ^ j.toNat = n := by decide) : EvJ X K E Γ R (.BinOp a .Pow b pos) R2' (dI n) := by
  subst hn
  exact ev_bin ha hb (br_pow hc)
/-- slots of which less is said -/
def WkS (a b : Option Sl) : Prop := ∀ s', a = some s' → ∃ t, b = some t ∧ ∀ K S v, t.r K S v → s'.r K S v
theorem wk_none {b : Option Sl} : WkS none b := fun s' e => nomatch e
theorem wk_same : WkS (some s) (some s) := fun s' e => ⟨s, rfl, fun K S v h => by rw [← Option.some.inj e]; exact h⟩
theorem wk_eq {t : Sl} (h : s = t) : WkS (some s) (some t) := h ▸ wk_same
theorem wkG (h : All2 WkS Γ' Γ) : ∀ S σ H, SR K E Γ R S σ H → SR K E Γ' R S σ H := fun S σ H q => q.weakΓ (h.imp fun a b g s' e => let ⟨t, e1, e2⟩ := g s' e; ⟨t, e1, fun v => e2 K S v⟩)
/-- a def proved is one that may be called -/
theorem cal_of {CX : CXT} {k m : Nat} {fa : Addr} {fd : FuncData} {sp : Sp} (h : FnOk P w K mg base CX k fa fd ps sp) (hr : Room m A) (hk : k ≤ m) (hm : mg f = some (.ref fa)) (kp : PySem.W.keepIn K (.ref fa) = true) (hb : Binds K fd ps []) (hx : ∀ Y : Cx, Y.prog = P → Y.w = w → Passes CX Y E0) : Cal P w K mg base A f ps sp :=
  ⟨CX, k, fa, fd, h, hr.mono hk, hm, kp, hb, hx⟩
theorem passN : ∀ Y : Cx, Y.prog = P → Y.w = w → Passes CX0 Y E0 := fun _ _ _ => pass0
end
/-- a def of the text: its promise, where it stands -/
structure Def (P : Program) (w : World) (K : PySem.W.Frag) (mg : Str → Option Value) (base : Heap) (f : Str) (ps : List Str) (k : Nat) (sp : Sp) : Prop where
  ex : ∃ (fa : Addr) (fd : FuncData), FnOk P w K mg base CX0 k fa fd ps sp ∧ mg f = some (.ref fa) ∧ PySem.W.keepIn K (.ref fa) = true ∧ Binds K fd ps []
theorem Def.cal {P : Program} {w : World} {K : PySem.W.Frag} {mg : Str → Option Value} {base : Heap} {f : Str} {ps : List Str} {k m : Nat} {sp : Sp} {A : Around} (d : Def P w K mg base f ps k sp) (hr : Room m A) (hk : k ≤ m := by decide) : Cal P w K mg base A f ps sp :=
  let ⟨fa, fd, h1, h2, h3, h4⟩ := d.ex; cal_of h1 hr hk h2 h3 h4 passN
/-- the law's own promise -/
theorem spLaw_of {K : PySem.W.Frag} {H : Hp} {a : Addr} {ns : List Int} {E : XK} (hl : ns.length ≤ 63) (hS : SqL K H a (ns.map V.int)) :
    sp1 K (fun (ns : List Int) => ns.length ≤ 63) sscr (fun _ => dB true) [.ref a] H (fun v _ => v = .bl true) E :=
  ⟨ns, H, [], hl, fun _ _ h => h, .cons ⟨a, rfl, hS⟩ .nil, ⟨.nil, .nil⟩, fun _ _ _ _ _ _ _ _ _ _ _ h => h⟩
end SL

/-! the draws of a law: their mirrors -/
namespace SL
open PySem PySem.Spec PyProof.Rows L2
def cellA (ns : List Int) (k : Int) : Int := if 0 < ns.length then ns.getD (k % ns.length).toNat 0 else 0
def partA (ns : List Int) (k : Int) : Int := if 1000000000000000000 ≤ cellA ns k then cellA ns k / 2 ^ (20 * (k / ns.length)).toNat else 0
def byA (ns : List Int) (k many : Int) : Int :=
  if 0 < partA ns k then partA ns k % many
  else (cellA ns k % 1000003 + 31 * k * k + 1) * 48271 % 999983 * 7919 % 524287 % many
theorem by_nn {ns : List Int} {k m : Int} (h : 0 < m) : 0 ≤ byA ns k m := by
  unfold byA
  split <;> exact Int.emod_nonneg _ (by omega)
theorem by_lt {ns : List Int} {k m n : Int} (h : 0 < m ∧ m ≤ n) : byA ns k m < n := by
  unfold byA
  split <;> exact Int.lt_of_lt_of_le (Int.emod_lt_of_pos _ h.1) h.2
theorem cell_at_ok {ns : List Int} {k : Int} (h : 0 < ns.length) : atI ns (k % (ns.length : Int)) = some (cellA ns k) := by
  unfold cellA
  rw [if_pos h]
  exact atI_open (Int.emod_nonneg _ (by omega)) (Int.emod_lt_of_pos _ (by omega))
end SL

/-! lists that are walked, alone, numbered or two at once; data compared -/
namespace SL
open PySem PySem.Spec PyProof.Rows L2
section
variable {ι : Type} {X : ι → Cx} {K : PySem.W.Frag} {E : Ent} {B : Hp} {Γ Γ' : Slots} {R R' R1 R2' R3 : List Res} {a b c e o : Expr} {es : List Expr} {pos p' : Pos} {s s1 s2 s3 : Sl}
  {P : Program} {w : World} {mg : Str → Option Value} {base : Heap} {A : Around} {N : List Str} {rest sts : List Stmt} {D : Ends} {S S' H H' : Hp} {σ σ' : L2.St} {f : Str} {ps : List Str} {i j : Int} {x y : Str}
/-- what s says is a list of the data ds, and stays so while C holds -/
def LS (K : PySem.W.Frag) (E : Ent) (R1 : List Res) (s : Sl) (ds : List PyData) (C : List Res → Prop) : Prop :=
  ∀ (Γ : Slots) (S : Hp) (σ : L2.St) (H : Hp) (v : V), SR K E Γ R1 S σ H → s.r K S v → ∃ p, v = .ref p ∧ (∃ vs, SqL K H p vs) ∧
    ∀ (Γ' : Slots) (R' : List Res) (S' : Hp) (σ' : L2.St) (H' : Hp), Same S S' → SR K E Γ' R' S' σ' H' → C R' → ∃ vs, SqL K H' p vs ∧ DaAll K S' vs ds
theorem ls_d {ds : List PyData} : LS K E R1 (sd (.list ds)) ds CAny := fun Γ S σ H v q r => by
  cases r with
  | lst h t => exact ⟨_, rfl, ⟨_, SqL.of (q.sub _ _ h)⟩, fun Γ' R' S' σ' H' e q' _ => ⟨_, SqL.of (q'.sub _ _ (e _ _ h)), daAll_same e t⟩⟩
theorem ls_o (m : Nat) {p : Addr} {ds : List PyData} (hm : R1[m]? = some (rL p ds)) : LS K E R1 (sv (.ref p)) ds (fun R' => R'[m]? = some (rL p ds)) := fun Γ S σ H v q r => by
  cases (show v = .ref p from r)
  obtain ⟨p', vs, e0, h1, h2⟩ := lv_o m hm E Γ S σ H _ q rfl
  cases e0
  refine ⟨p, rfl, ⟨vs, SqL.of h1⟩, fun Γ' R' S' σ' H' e q' hC => ?_⟩
  obtain ⟨p', us, e0, g1, g2⟩ := lv_o m hC E Γ' S' σ' H' _ q' rfl
  cases e0
  exact ⟨us, SqL.of g1, g2⟩
theorem daAll_ints {S : Hp} : ∀ ns : List Int, DaAll K S (ns.map V.int) (ns.map PyData.int)
  | [] => .nil
  | n :: ns => .cons (.int n) (daAll_ints ns)
theorem ls_scr {ns : List Int} : LS K E R1 (sscr ns) (ns.map .int) CAny := fun Γ S σ H v q r => by
  obtain ⟨p, rfl, h⟩ := r
  exact ⟨p, rfl, ⟨_, same_l q.sub h⟩, fun Γ' R' S' σ' H' e q' _ => ⟨_, same_l q'.sub (same_l e h), daAll_ints ns⟩⟩
theorem sqL_same {K : PySem.W.Frag} {H : Hp} {a : Addr} {xs ys : List V} {n : Nat} {x y : V} (h : ∀ xs, SqL K H a xs → xs[n]? = some x) (h1 : SqL K H a ys) (h2 : ys[n]? = some y) : x = y := by
  have := h ys h1
  rw [h2] at this
  exact (Option.some.inj this).symm
theorem it_ls (F : Fam X P w K mg base A N) {tg : Expr} {ds : List PyData} {C : List Res → Prop} (h : EvJ X K E Γ R e R1 s) (hl : LS K E R1 s ds C) : ItJ X K E Γ R tg e R1 (ds.map sl) C := by
  obtain ⟨t, a1, a2⟩ := h
  refine ⟨iList K t, fun i => by rw [← F.fK i]; exact pi_list (a1 i), fun S σ H Rk q k => a2 S σ H _ q fun v S1 H1 e1 q1 r1 => ?_⟩
  obtain ⟨p, rfl, h1, h2⟩ := hl Γ S1 σ H1 v q1 r1
  refine ⟨p, rfl, h1, k _ S1 H1 e1 q1 fun n Γ' R' S' σ' H' e' q' hC => ?_⟩
  obtain ⟨vs, g1, g2⟩ := h2 Γ' R' S' σ' H' e' q' hC
  refine ⟨fun s hs => ?_, fun hn => ⟨vs, g1, by rw [List.length_map] at hn; rw [daAll_len g2]; exact hn⟩⟩
  rw [List.getElem?_map] at hs
  cases e2 : ds[n]? with
  | none => rw [e2] at hs; cases hs
  | some d =>
    rw [e2] at hs
    cases hs
    obtain ⟨x, hx, hd⟩ := daAll_get' g2 e2
    refine ⟨⟨vs, x, g1, hx⟩, fun y H'' ⟨z1, z2⟩ => ?_⟩
    subst z1
    cases sqL_same (ys := vs) (xs := vs) z2 g1 hx
    exact ⟨S', Same.refl _, q', sl_da.mpr hd⟩
theorem it_enum (F : Fam X P w K mg base A N) {ts : List Expr} {kk : Nat} {tpos : Pos} {ds : List PyData} {C : List Res → Prop} (hm : mg "enumerate" = none) (h : EvJ X K E Γ R e R1 s) (hl : LS K E R1 s ds C) (hg : ∀ i, Gl (X i) "enumerate" := by exact fun _ => rfl) (hs : ∀ i, starEach [e] (X i).env = [(false, eval e (X i).env)] := by exact fun _ => rfl) :
    ItJ X K E Γ R (.Tuple ts kk tpos) (.Call (.Name "enumerate" p') [e] [] pos) R1 (ds.zipIdx.map fun x => stup [dI (x.2 : Nat), sl x.1]) C := by
  obtain ⟨t, a1, a2⟩ := ar_cons h ar_nil hs
  refine ⟨iEnum K t, fun i => by rw [← F.fK i]; exact pi_enum (hg i) (by rw [F.fmg i]; exact hm) (a1 i) (hs i), fun S σ H Rk q k => a2 S σ H _ q fun vs S1 H1 e1 q1 r1 => ?_⟩
  obtain ⟨v, rfl, r2⟩ := all2_one r1
  obtain ⟨p, rfl, ⟨us, h1⟩, h2⟩ := hl Γ S1 σ H1 v q1 r2
  refine ⟨p, us, rfl, h1, k _ S1 H1 e1 q1 fun n Γ' R' S' σ' H' e' q' hC => ?_⟩
  obtain ⟨vs, g1, g2⟩ := h2 Γ' R' S' σ' H' e' q' hC
  refine ⟨fun s hs => ?_, fun hn => ⟨vs, g1, by rw [List.length_map, List.length_zipIdx] at hn; rw [daAll_len g2]; exact hn⟩⟩
  rw [List.getElem?_map, List.getElem?_zipIdx] at hs
  cases e2 : ds[n]? with
  | none => rw [e2] at hs; cases hs
  | some d =>
    rw [e2] at hs
    cases hs
    obtain ⟨x, hx, hd⟩ := daAll_get' g2 e2
    refine ⟨⟨vs, x, g1, hx⟩, fun y H'' ⟨T, x', z1, z2, z3, z4⟩ => ?_⟩
    subst z1 z3
    cases sqL_same (ys := vs) (xs := vs) z4 g1 hx
    have e3 := same_new (o := .tup [.int (n : Nat), x]) (q'.free z2)
    refine ⟨_, e3, q'.grow z2, T, _, rfl, SqT.of upd_same, .cons ?_ (.cons (sl_da.mpr (da_same e3 hd)) .nil)⟩
    show V.int _ = V.int _
    simp
theorem it_zip (F : Fam X P w K mg base A N) {ts : List Expr} {kk : Nat} {tpos : Pos} {ds ds' : List PyData} {C C' : List Res → Prop} (hm : mg "zip" = none) (h : EvJ X K E Γ R a R1 s1) (h' : EvJ X K E Γ R1 b R2' s2) (hl : LS K E R2' s1 ds C) (hl' : LS K E R2' s2 ds' C') (hg : ∀ i, Gl (X i) "zip" := by exact fun _ => rfl)
    (hs : ∀ i, starEach [a, b] (X i).env = (false, eval a (X i).env) :: starEach [b] (X i).env := by exact fun _ => rfl) (hs' : ∀ i, starEach [b] (X i).env = (false, eval b (X i).env) :: starEach [] (X i).env := by exact fun _ => rfl) (hpl : ∀ i, (backTo pos (starEach [b] (X i).env)).any (·.1) = false := by exact fun _ => rfl) :
    ItJ X K E Γ R (.Tuple ts kk tpos) (.Call (.Name "zip" p') [a, b] [] pos) R2' ((ds.zip ds').map fun x => stup [sl x.1, sl x.2]) (fun R' => C R' ∧ C' R') := by
  obtain ⟨t, a1, a2⟩ := ar_cons h (ar_cons h' ar_nil hs') hs
  refine ⟨iZip K t, fun i => by rw [← F.fK i]; exact pi_zip (hg i) (by rw [F.fmg i]; exact hm) (a1 i) (hs i) (hpl i), fun S σ H Rk q k => a2 S σ H _ q fun vs S1 H1 e1 q1 r1 => ?_⟩
  obtain ⟨v, v', rfl, r2, r3⟩ : ∃ v v', vs = [v, v'] ∧ s1.r K S1 v ∧ s2.r K S1 v' := by
    cases r1 with
    | cons z1 z2 =>
      cases z2 with
      | cons z3 z4 =>
        cases z4
        exact ⟨_, _, rfl, z1, z3⟩
  obtain ⟨p, rfl, ⟨us, h1⟩, h2⟩ := hl Γ S1 σ H1 v q1 r2
  obtain ⟨p', rfl, ⟨us', h1'⟩, h2'⟩ := hl' Γ S1 σ H1 v' q1 r3
  refine ⟨p, p', us, us', rfl, h1, h1', k _ S1 H1 e1 q1 fun n Γ' R' S' σ' H' e' q' hC => ?_⟩
  obtain ⟨vs, g1, g2⟩ := h2 Γ' R' S' σ' H' e' q' hC.1
  obtain ⟨vs', g1', g2'⟩ := h2' Γ' R' S' σ' H' e' q' hC.2
  refine ⟨fun s hs => ?_, fun hn => ⟨vs, vs', g1, g1', by rw [List.length_map, List.length_zip] at hn; rw [daAll_len g2, daAll_len g2']; omega⟩⟩
  rw [List.getElem?_map] at hs
  cases e2 : (ds.zip ds')[n]? with
  | none => rw [e2] at hs; cases hs
  | some d =>
    rw [e2] at hs
    cases hs
    obtain ⟨e3, e4⟩ := List.getElem?_zip_eq_some.mp e2
    obtain ⟨x, hx, hd⟩ := daAll_get' g2 e3
    obtain ⟨x', hx', hd'⟩ := daAll_get' g2' e4
    refine ⟨⟨vs, vs', x, x', g1, g1', hx, hx'⟩, fun y H'' ⟨T, u, u', z1, z2, z3, z4, z5⟩ => ?_⟩
    subst z1 z3
    cases sqL_same (ys := vs) (xs := vs) z4 g1 hx
    cases sqL_same (ys := vs') (xs := vs') z5 g1' hx'
    have e5 := same_new (o := .tup [x, x']) (q'.free z2)
    exact ⟨_, e5, q'.grow z2, T, _, rfl, SqT.of upd_same, .cons (sl_da.mpr (da_same e5 hd)) (.cons (sl_da.mpr (da_same e5 hd')) .nil)⟩
/-- the same things by other names -/
theorem it_as {α : Type} {tg it0 : Expr} {items : List Sl} {C : List Res → Prop} (xs : List α) (it : α → Sl) (h : ItJ X K E Γ R tg it0 R1 items C) (e : items = xs.map it) : ItJ X K E Γ R tg it0 R1 (xs.map it) C := e ▸ h
theorem sl_ints {ns : List Int} : (ns.map PyData.int).map sl = ns.map dI := by
  rw [List.map_map]
  rfl
theorem sl_strs {ns : List Str} : (ns.map PyData.str).map sl = ns.map dS := by
  rw [List.map_map]
  rfl

/-! ### data compared -/
mutual
theorem da_plain {K : PySem.W.Frag} {H : Hp} : ∀ {v : V} {d : PyData}, Da K H v d → d.plain = true
  | _, _, .non => rfl
  | _, _, .bl _ => rfl
  | _, _, .int _ => rfl
  | _, _, .str _ => rfl
  | _, _, .lst _ r => by rw [PyData.plain]; exact daAll_plain r
  | _, _, .tup _ r => by rw [PyData.plain]; exact daAll_plain r
theorem daAll_plain {K : PySem.W.Frag} {H : Hp} : ∀ {vs : List V} {ds : List PyData}, DaAll K H vs ds → PyData.plainAll ds = true
  | _, _, .nil => rfl
  | _, _, .cons h r => by rw [PyData.plainAll, da_plain h, daAll_plain r]; rfl
end
mutual
theorem eqv_plain : ∀ d : PyData, d.plain = true → PyData.eqv d d = true
  | .none, _ => rfl
  | .bool b, _ => by simp [PyData.eqv]
  | .int i, _ => by simp [PyData.eqv]
  | .str x, _ => by simp [PyData.eqv]
  | .list xs, h => by rw [PyData.eqv]; exact eqvAll_plain xs (by rw [PyData.plain] at h; exact h)
  | .tuple xs, h => by rw [PyData.eqv]; exact eqvAll_plain xs (by rw [PyData.plain] at h; exact h)
  | .dict _, h => nomatch h
theorem eqvAll_plain : ∀ xs : List PyData, PyData.plainAll xs = true → PyData.eqvAll xs xs = true
  | [], _ => rfl
  | x :: xs, h => by
    have h' : x.plain = true ∧ PyData.plainAll xs = true := by simpa [PyData.plainAll] using h
    rw [PyData.eqvAll, eqv_plain x h'.1, eqvAll_plain xs h'.2]; rfl
end
def dep (k : Nat) (d : PyData) : Prop := d.depth ≤ k
def depA (k : Nat) (ds : List PyData) : Prop := PyData.depthAll ds ≤ k
theorem dep_int {k : Nat} {i : Int} : dep k (.int i) := Nat.zero_le _
theorem dep_str {k : Nat} {i : Str} : dep k (.str i) := Nat.zero_le _
theorem dep_bool {k : Nat} {i : Bool} : dep k (.bool i) := Nat.zero_le _
theorem dep_none {k : Nat} : dep k .none := Nat.zero_le _
theorem dep_list {k : Nat} {ds : List PyData} (h : depA k ds) : dep (k + 1) (.list ds) := by
  unfold dep
  have : PyData.depthAll ds ≤ k := h
  simp only [PyData.depth]
  omega
theorem dep_tup {k : Nat} {ds : List PyData} (h : depA k ds) : dep (k + 1) (.tuple ds) := by
  unfold dep
  have : PyData.depthAll ds ≤ k := h
  simp only [PyData.depth]
  omega
theorem depA_nil {k : Nat} : depA k [] := Nat.zero_le _
theorem depA_cons {k : Nat} {d : PyData} {ds : List PyData} (h : dep k d) (r : depA k ds) : depA k (d :: ds) := by
  have h1 : d.depth ≤ k := h
  have h2 : PyData.depthAll ds ≤ k := r
  unfold depA
  simp only [PyData.depthAll]
  omega
theorem depA_all {k : Nat} : ∀ {ds : List PyData}, (∀ d ∈ ds, dep k d) → depA k ds
  | [], _ => depA_nil
  | d :: ds, h => depA_cons (h d (List.mem_cons_self ..)) (depA_all fun x hx => h x (List.mem_cons_of_mem _ hx))
theorem depA_map {α : Type} {k : Nat} {f : α → PyData} {xs : List α} (h : ∀ x, dep k (f x)) : depA k (xs.map f) := depA_all fun d hd => by
  obtain ⟨x, _, rfl⟩ := List.mem_map.mp hd
  exact h x
theorem depA_mem {k : Nat} : ∀ {ds : List PyData} {d : PyData}, depA k ds → d ∈ ds → dep k d
  | e :: ds, d, h, hd => by
    have h2 : PyData.depthAll (e :: ds) ≤ k := h
    simp only [PyData.depthAll] at h2
    rcases List.mem_cons.mp hd with z | z
    · subst z
      show d.depth ≤ k
      omega
    · exact depA_mem (show PyData.depthAll ds ≤ k by omega) z
theorem depA_app {k : Nat} {ds es : List PyData} (h : depA k ds) (g : depA k es) : depA k (ds ++ es) := depA_all fun d hd => (List.mem_append.mp hd).elim (depA_mem h) (depA_mem g)
/-- what s says is the data d -/
def DV (K : PySem.W.Frag) (R : List Res) (s : Sl) (d : PyData) : Prop := ∀ (E : Ent) (Γ : Slots) (S : Hp) (σ : L2.St) (H : Hp) (v : V), SR K E Γ R S σ H → s.r K S v → Dp K H v d ∧ d.plain = true
theorem dv_d {d : PyData} : DV K R (sd d) d := fun E Γ S σ H v q r => ⟨da_dp (da_same q.sub r), da_plain (show Da K S v d from r)⟩
theorem dv_ad {d : PyData} (h : ∀ K S v, s.r K S v → Da K S v d) : DV K R s d := fun E Γ S σ H v q r => ⟨da_dp (da_same q.sub (h K S v r)), da_plain (h K S v r)⟩
theorem dv_o (k : Nat) {p : Addr} {ds : List PyData} (h : R[k]? = some (rL p ds)) : DV K R (sv (.ref p)) (.list ds) := fun E Γ S σ H v q r => by
  cases (show v = .ref p from r)
  obtain ⟨vs, h1, h2⟩ := q.cellL k h
  exact ⟨.lst (SqL.of h1) (daAll_dp (daAll_same q.sub h2)), by rw [PyData.plain]; exact daAll_plain h2⟩
def rEqP (K : PySem.W.Frag) : R2 := fun x y H Q => ∃ d e, Dp K H x d ∧ Dp K H y e ∧ d.plain = true ∧ e.plain = true ∧ min d.depth e.depth ≤ 64 ∧ Q (.bl (PyData.eqv d e)) H
def rNeP (K : PySem.W.Frag) : R2 := fun x y H Q => ∃ d e, Dp K H x d ∧ Dp K H y e ∧ d.plain = true ∧ e.plain = true ∧ min d.depth e.depth ≤ 64 ∧ Q (.bl (!PyData.eqv d e)) H
theorem op_eqP {X : Cx} (hu : X.A.units + 64 < cLine) : OpR X (compareOp .Eq) (rEqP X.K) := by
  intro pins s σ H x y v u Q I rx ry h
  obtain ⟨d, e, hd, he, sd, se, hm, q⟩ := h
  obtain ⟨as, r1⟩ := Dp.reads I d x v hd rx
  obtain ⟨bs, r2⟩ := Dp.reads I e y u he ry
  exact SeqAt.eq_plain r1 r2 sd se (by omega) ⟨.bl _, H, I, rfl, q⟩
theorem op_neP {X : Cx} (hu : X.A.units + 64 < cLine) : OpR X (compareOp .NotEq) (rNeP X.K) := by
  intro pins s σ H x y v u Q I rx ry h
  obtain ⟨d, e, hd, he, sd, se, hm, q⟩ := h
  obtain ⟨as, r1⟩ := Dp.reads I d x v hd rx
  obtain ⟨bs, r2⟩ := Dp.reads I e y u he ry
  exact SeqAt.ne_plain r1 r2 sd se (by omega) ⟨.bl _, H, I, rfl, q⟩
theorem br_eqP {k : Nat} (F : Fam X P w K mg base A N) (hr : Room k A) {d d' : PyData} (h1 : DV K R s1 d) (h2 : DV K R s2 d') (hd : dep 64 d ∨ dep 64 d') : BinR X K E (compareOp .Eq) R s1 s2 (dB (PyData.eqv d d')) :=
  ⟨rEqP K, fun n => by rw [← F.fK n]; exact op_eqP (by rw [F.fA n]; exact hr.units), fun Γ S σ H x y Q q r1 r2 k => ⟨d, d', (h1 E Γ S σ H x q r1).1, (h2 E Γ S σ H y q r2).1, (h1 E Γ S σ H x q r1).2, (h2 E Γ S σ H y q r2).2, by rcases hd with z | z <;> (have : _ ≤ 64 := z; omega), k _ S H (Same.refl _) q rfl⟩⟩
theorem br_neP {k : Nat} (F : Fam X P w K mg base A N) (hr : Room k A) {d d' : PyData} (h1 : DV K R s1 d) (h2 : DV K R s2 d') (hd : dep 64 d ∨ dep 64 d') : BinR X K E (compareOp .NotEq) R s1 s2 (dB (!PyData.eqv d d')) :=
  ⟨rNeP K, fun n => by rw [← F.fK n]; exact op_neP (by rw [F.fA n]; exact hr.units), fun Γ S σ H x y Q q r1 r2 k => ⟨d, d', (h1 E Γ S σ H x q r1).1, (h2 E Γ S σ H y q r2).1, (h1 E Γ S σ H x q r1).2, (h2 E Γ S σ H y q r2).2, by rcases hd with z | z <;> (have : _ ≤ 64 := z; omega), k _ S H (Same.refl _) q rfl⟩⟩
end
theorem plA_map {α : Type} {f : α → PyData} (h : ∀ x, (f x).plain = true) : ∀ xs : List α, PyData.plainAll (xs.map f) = true
  | [] => rfl
  | x :: xs => by rw [List.map_cons, PyData.plainAll, h x, plA_map h xs]; rfl
theorem plA_app : ∀ {xs ys : List PyData}, PyData.plainAll xs = true → PyData.plainAll ys = true → PyData.plainAll (xs ++ ys) = true
  | [], _, _, h => h
  | x :: xs, ys, h, g => by
    have h' : x.plain = true ∧ PyData.plainAll xs = true := by simpa [PyData.plainAll] using h
    rw [List.cons_append, PyData.plainAll, h'.1, plA_app h'.2 g]; rfl
theorem eqv_nil {ds : List PyData} : PyData.eqv (.list ds) (.list []) = ds.isEmpty := by
  cases ds <;> simp [PyData.eqv, PyData.eqvAll]
theorem eqv_ints (xs ys : List Int) : PyData.eqv (.list (xs.map .int)) (.list (ys.map .int)) = decide (xs = ys) := by
  rw [PyData.eqv]
  induction xs generalizing ys with
  | nil => cases ys <;> simp [PyData.eqvAll]
  | cons x xs ih =>
    cases ys with
    | nil => simp [PyData.eqvAll]
    | cons y ys =>
      rw [List.map_cons, List.map_cons, PyData.eqvAll, PyData.eqv, ih, Bool.eq_iff_iff]
      simp
section
variable {ι : Type} {X : ι → Cx} {K : PySem.W.Frag} {E : Ent} {B : Hp} {Γ Γ' : Slots} {R R' R1 R2' R3 : List Res} {sts : List Stmt} {D : Ends} {S S' H H' : Hp} {σ σ' : L2.St}
/-- nothing of one's own (where something has become lasting) -/
def rE : Res := ⟨fun K S O => O = fun _ => none, fun _ h => h⟩
theorem SR.freezeAt {p : Addr} {ds : List PyData} (q : SR K E Γ R S σ H) (k : Nat) (hk : R[k]? = some (rL p ds)) : ∃ S', Same S S' ∧ SR K E Γ (R.set k rE) S' σ H ∧ Da K S' (.ref p) (.list ds) := by
  obtain ⟨Os, ⟨h1, h2⟩, h3⟩ := q.own
  obtain ⟨O, e1, ⟨⟨vs, hO, hv⟩, gs, gn⟩, g4⟩ := all2_split h1 hk
  subst hO
  have hop := hOne_same (p := p) (o := .lst vs)
  have hp : H p = some (.lst vs) := gs p _ hOne_same
  have sp : S p = none := gn p (by rw [hOne_same]; exact fun z => nomatch z)
  have others : ∀ (j : Nat) O', j ≠ k → Os[j]? = some O' → O' p = none := fun j O' hj e => disj_symm (pairwise_get h2 (fun _ _ => disj_symm) hj e e1) p (by rw [hop]; exact fun z => nomatch z)
  refine ⟨upd S p (.lst vs), same_new sp, ⟨fun a u e => ?_, q.ext.trans (same_new sp), q.fr, fun a ha => ?_, ⟨Os.set k (fun _ => none), ⟨g4 (fun _ => none) _ rE ⟨rfl, fun a u e => (nomatch e), fun a ha => absurd rfl ha⟩ fun j x y hj e2 e3 b => ⟨x.mono (same_new sp) b.1, b.2.1, fun a ha => ?_⟩, ?_⟩, fun O hO a ha => ?_⟩,
    q.slots.imp fun s o h1 s' e => let ⟨v, e2, e3⟩ := h1 s' e; ⟨v, e2, s'.mono (same_new sp) e3⟩⟩, .lst upd_same (daAll_same (same_new sp) hv)⟩
  · by_cases ha : a = p
    · subst ha; rw [upd_same] at e; cases e; exact hp
    · rw [upd_ne ha] at e; exact q.sub a u e
  · by_cases e : a = p
    · subst e
      rcases h3 _ (List.mem_of_getElem? e1) a (by rw [hOne_same]; exact fun z => nomatch z) with z | z
      · exact .inr (.inr z)
      · exact .inr (.inl z)
    · rw [upd_ne e] at ha
      exact q.new a ha
  · have ne : a ≠ p := fun e => ha (by rw [e]; exact others j y hj e3)
    rw [upd_ne ne]
    exact b.2.2 a ha
  · exact pairwise_set (fun _ _ => disj_symm) h2 fun j O' hj e a ha => rfl
  · rcases List.mem_or_eq_of_mem_set hO with z | z
    · exact h3 O z a ha
    · subst z
      exact absurd rfl ha
/-- a list of one's own becomes lasting -/
theorem blk_frz (j k : Nat) {p : Addr} {ds : List PyData} (hr : Blk X K E B (Γ.set j (some (sd (.list ds)))) (R.set k rE) sts D) (hk : R[k]? = some (rL p ds) := by rfl) (hj : Γ[j]? = some (some (sv (.ref p))) := by rfl) : Blk X K E B Γ R sts D := by
  obtain ⟨t, h1, h2⟩ := hr
  refine ⟨t, h1, fun S σ H b q => ?_⟩
  obtain ⟨S', e, q', hd⟩ := q.freezeAt k hk
  refine h2 S' σ H (b.trans e) ?_
  obtain ⟨v, e2, r2⟩ := q.slot hj
  cases (show v = .ref p from r2)
  have := q'.setSlot (k := j) (v := .ref p) (s := sd (.list ds)) hd
  rwa [show σ.set j (some (.ref p)) = σ from ?_] at this
  apply List.ext_getElem?
  intro m
  by_cases hm : j = m
  · subst hm
    obtain ⟨hl, he⟩ := List.getElem?_eq_some_iff.mp e2
    rw [List.getElem?_set_self hl, e2]
  · rw [List.getElem?_set_ne hm]
theorem zip_ints {ns ms : List Int} : (((ns.map PyData.int).zip (ms.map PyData.int)).map fun x => stup [sl x.1, sl x.2]) = (ns.zip ms).map fun x => stup [dI x.1, dI x.2] := by
  rw [List.zip_map, List.map_map]
  rfl
variable {P : Program} {w : World} {mg : Str → Option Value} {base : Heap} {A : Around} {N : List Str} {e : Expr} {pos : Pos} {rest : List Stmt} {s : Sl}
theorem blk_asgE (F : Fam X P w K mg base A N) (k : Nat) (s' : Sl) {x : Str} {pos' : Pos} (he : EvJ X K E Γ R e R1 s) (hs' : s = s') (hr : Blk X K E B (Γ.set k (some s')) R1 rest D) (hi : N[k]? = some x := by rfl) (hx : ∀ i, Loc (X i).env.scope x := by first | exact fun _ => Or.inl rfl | exact fun _ => Or.inr rfl)
    (hs : ∀ i, swapsWith e (some (.Name x pos')) pos.line (X i).env = pure false := by exact fun _ => rfl) (hf : ∀ i, (X i).fn x = true ∨ (X i).env.scope.names.lookup x = some .local := by first | exact fun _ => Or.inl rfl | exact fun _ => Or.inr rfl) : Blk X K E B Γ R (.Assign [.Name x pos'] e pos :: rest) D := by
  subst hs'
  exact blk_asg F k he hr hi hx hs hf
theorem blk_endE (hR : R = R') (h : All2 WkS Γ' Γ) (hD : D.nx = Pst K E B Γ' R') : Blk X K E B Γ R [] D := by
  subst hR
  exact blk_end (wkG h) hD
theorem wkE (hR : R = R') (h : All2 WkS Γ' Γ) : ∀ S σ H, SR K E Γ R S σ H → SR K E Γ' R' S σ H := by
  subst hR
  exact wkG h
/-- one of the own things alone -/
theorem SR.pick (q : SR K E Γ R S σ H) (k : Nat) {ρ : Res} (hk : R[k]? = some ρ) : SR K E Γ [ρ] S σ H := by
  obtain ⟨Os, ⟨h1, h2⟩, h3⟩ := q.own
  obtain ⟨O, e1, g, _⟩ := all2_split h1 hk
  exact ⟨q.sub, q.ext, q.fr, q.new, ⟨[O], ⟨.cons g .nil, List.pairwise_singleton _ _⟩, fun O' hO => by rw [List.mem_singleton.mp hO]; exact h3 O (List.mem_of_getElem? e1)⟩, q.slots⟩
theorem retK (k : Nat) {p : Addr} {ds ds' : List PyData} {Q : VK} (hq : RetOk (ν := Addr) K E (fun p => [rL p ds]) (fun p => sv (.ref p)) Q) (h : ds' = ds) (hk : R1[k]? = some (rL p ds') := by rfl) : ∀ S σ H v, SR K E Γ R1 S σ H → (sv (.ref p)).r K S v → Q v H := fun S σ H v q r => by
  subst h
  exact hq p Γ S σ H v (q.pick k hk) r
theorem retLK {ds ds' : List PyData} {Q : VK} (hq : RetOk (ν := Addr) K E (fun p => [rL p ds]) (fun p => sv (.ref p)) Q) (h : ds' = ds) : ∀ p S σ H v, SR K E Γ (R1 ++ [rL p ds']) S σ H → (sv (.ref p)).r K S v → Q v H := fun p S σ H v q r => by
  subst h
  exact hq p Γ S σ H v (q.pick R1.length (by simp)) r
theorem atI_rng {α : Type} {f : Nat → α} {n x : Nat} (h : x < n) : atI ((List.range n).map f) (x : Int) = some (f x) := by
  refine atI_nat ?_
  rw [List.getElem?_map, List.getElem?_range h]
  rfl
theorem menu_all {α : Type} {Q : α → Prop} {d : α} : ∀ {xs : List α} {n : Nat}, (∀ x ∈ xs, Q x) → n < xs.length → Q (xs.getD n d)
  | x :: xs, 0, h, _ => h x (List.mem_cons_self ..)
  | x :: xs, n + 1, h, hn => menu_all (xs := xs) (n := n) (fun y hy => h y (List.mem_cons_of_mem _ hy)) (by simpa using hn)
theorem blkOk_at {Y : Cx} {scope : Scope} {own : List (Str × Nat)} (N : List Str) (sc : Scope) (hN : Y.N = N) (hs : Y.env.scope = sc) (h : blkC N sc scope own = true) : BlkOk Y.N Y.env.scope scope own := by
  subst hN hs
  exact blkOk_by h
/-- a comprehension, alone or assigned to a local name on its line -/
def LcJ (X : ι → Cx) (K : PySem.W.Frag) (E : Ent) (Γ : Slots) (R : List Res) (e : Expr) (R1 : List Res) (ds : List PyData) : Prop :=
  ∃ t : TE, (∀ i, PE (X i) e t) ∧ (∀ i (k : Nat) (y : Str) (py spos : Pos), (X i).N[k]? = some y → (X i).env.scope.names.lookup y = some .local → swapsWith e (some (.Name y py)) spos.line (X i).env = pure true → PS (X i) (.Assign [.Name y py] e spos) (tAsg t (gName k))) ∧
    ∀ S σ H (Q : VK), SR K E Γ R S σ H → (∀ n, Kont K E Γ (R1 ++ [rL n ds]) σ S (sv (.ref n)) Q) → t σ H Q
theorem lc_j {α : Type} {tg iter elt : Expr} {ifs : List Expr} {scope : Scope} {own : List (Str × Nat)} {C : List Res → Prop} {us : List Nat} {xs : List α} {it : α → Sl} {up : α → Slots → Slots} {k : α → Bool} {d : α → PyData} {se : α → Sl}
    (F : Fam X P w K mg base A N) (hi : ItJ X K E Γ R tg iter R1 (xs.map it) C) (ok : ∀ i, BlkOk (X i).N (X i).env.scope scope own)
    (htg : Fam (BX X scope) P w K mg base A N → TgA (BX X scope) K E tg it up us) (hu : ∀ j ∈ us, j ∈ own.map (·.2))
    (hC : ∀ D acc, C (R1 ++ [rL D acc])) (ht : Fam (BX X scope) P w K mg base A N → ∀ D acc, ∀ x ∈ xs, TsJ (BX X scope) K E (up x (wipeG Γ (own.map (·.2)))) (R1 ++ [rL D acc]) ifs (k x))
    (he : Fam (BX X scope) P w K mg base A N → ∀ D acc, ∀ x ∈ xs, k x = true → EvJ (BX X scope) K E (up x (wipeG Γ (own.map (·.2)))) (R1 ++ [rL D acc]) elt (R1 ++ [rL D acc]) (se x)) (hd : ∀ x ∈ xs, k x = true → ∀ K S v, (se x).r K S v → Da K S v (d x))
    (hz : xs.length ≤ 1000000) (hs : ∀ i x, foldedSetIterable iter (X i).env x = pure x := by exact fun _ _ => rfl) (hcm : ∀ i, (X i).calm = true := by exact fun _ => rfl) :
    LcJ X K E Γ R (.ListComp elt [⟨tg, iter, ifs, 0⟩] scope pos) R1 ((xs.filter k).map d) := by
  have htg := htg (fam_blk F)
  have ht := ht (fam_blk F)
  have he := he (fam_blk F)
  obtain ⟨wi, w1, w2⟩ := hi
  obtain ⟨g, t1, t2⟩ := htg
  have ht' := fun (n : { q : Addr × List PyData × α // q.2.2 ∈ xs }) => Classical.choose_spec (ht n.1.1 n.1.2.1 n.1.2.2 n.2)
  have he' := fun (n : { q : Addr × List PyData × α // q.2.2 ∈ xs ∧ k q.2.2 = true }) => Classical.choose_spec (he n.1.1 n.1.2.1 n.1.2.2 n.2.1 n.2.2)
  refine ⟨tLc wi g _ _ (own.map (·.2)), fun i => pe_lc (hcm i) (by rw [F.fN i]; exact F.nd) (w1 i) (ok i) (fun s H C cl fp => t1 ⟨i, s, H, C, cl, fp⟩) (fun s H C cl fp => pts_any fun n => (ht' n).1 ⟨i, s, H, C, cl, fp⟩) (fun s H C cl fp => pe_any fun n => (he' n).1 ⟨i, s, H, C, cl, fp⟩) (hs i), fun i k y py spos hy hyl hsw => ps_setLc (hcm i) (by rw [F.fN i]; exact F.nd) hy hyl hsw (w1 i) (ok i) (fun s H C cl fp => t1 ⟨i, s, H, C, cl, fp⟩) (fun s H C cl fp => pts_any fun n => (ht' n).1 ⟨i, s, H, C, cl, fp⟩) (fun s H C cl fp => pe_any fun n => (he' n).1 ⟨i, s, H, C, cl, fp⟩) (hs i), fun S σ H Q q kk => ?_⟩
  refine w2 S σ H _ q fun J S1 H1 e1 q1 hJ D hD => ?_
  refine ⟨fun n m H => m = xs.length - n ∧ n ≤ xs.length ∧ ∃ S', Same S1 S' ∧ SR K E Γ (R1 ++ [rL D (((xs.take n).filter k).map d)]) S' σ H, ⟨xs.length, by simp, Nat.zero_le _, S1, Same.refl _, q1.mine hD ⟨[], rfl, .nil⟩⟩, ?_⟩
  rintro n m H2 ⟨rfl, hn, S2, e2, q2⟩
  obtain ⟨g1, g2⟩ := hJ n _ _ S2 σ H2 e2 q2 (hC _ _)
  by_cases hlt : n < xs.length
  · have hx : xs[n]? = some xs[n] := List.getElem?_eq_getElem hlt
    have hm : xs[n] ∈ xs := List.getElem_mem hlt
    have htake : xs.take (n + 1) = xs.take n ++ [xs[n]] := by rw [List.take_succ, hx]; rfl
    obtain ⟨go, hy⟩ := g1 (it xs[n]) (by rw [List.getElem?_map, hx]; rfl)
    refine .inr ⟨go, fun H' => ∃ S', Same S1 S' ∧ SR K E Γ (R1 ++ [rL D (((xs.take (n + 1)).filter k).map d)]) S' σ H', fun H' h' => ⟨xs.length - (n + 1), by omega, rfl, hlt, h'⟩, fun x H' hx' => ?_⟩
    obtain ⟨S3, e3, q3, r3⟩ := hy x H' hx'
    apply t2 xs[n] _ _ S3 (wipe σ (own.map (·.2))) H' x _ (q3.reslot (wipe_slots _ q3.slots)) r3
    intro σ4 q4 o4 l4
    refine ⟨wipe_eq o4 l4 hu, ?_⟩
    refine ⟨⟨(D, ((xs.take n).filter k).map d, xs[n]), hm⟩, (ht' ⟨(D, ((xs.take n).filter k).map d, xs[n]), hm⟩).2 S3 σ4 H' _ q4 fun S5 H5 e5 q5 => ?_⟩
    have q5' : SR K E Γ (R1 ++ [rL D (((xs.take n).filter k).map d)]) S5 σ H5 := q5.reslot (slots_mono e5 q3.slots)
    cases hk : k xs[n] with
    | false =>
      refine iteF ⟨S5, (e2.trans e3).trans e5, ?_⟩
      rw [htake, List.filter_append, List.filter_cons, if_neg (by rw [hk]; exact Bool.false_ne_true), List.filter_nil, List.append_nil]
      exact q5'
    | true =>
      refine iteT ⟨⟨(D, ((xs.take n).filter k).map d, xs[n]), hm, hk⟩, (he' ⟨(D, ((xs.take n).filter k).map d, xs[n]), hm, hk⟩).2 S5 σ4 H5 _ q5 fun y S6 H6 e6 q6 r6 => ?_⟩
      have q6' : SR K E Γ (R1 ++ [rL D (((xs.take n).filter k).map d)]) S6 σ H6 := q6.reslot (slots_mono e6 q5'.slots)
      obtain ⟨O, ⟨acc, eO, hacc⟩, sO⟩ := q6'.res R1.length get_last
      subst eO
      refine ⟨acc, sO D _ hOne_same, ?_, S6, ((e2.trans e3).trans e5).trans e6, ?_⟩
      · rw [daAll_len hacc, List.length_map]
        have h1 := List.length_filter_le k (xs.take n)
        rw [List.length_take] at h1
        have : (sizeLine : Nat) = 16777216 := sizeLine_eq
        omega
      · rw [htake, List.filter_append, List.filter_cons, if_pos (by rw [hk]), List.filter_nil, List.map_append]
        have := q6'.putL R1.length get_last (daAll_app hacc (.cons (hd _ hm hk K S6 y r6) .nil))
        rw [set_last] at this
        exact this
  · have e : n = xs.length := by omega
    subst e
    rw [List.take_length] at q2
    exact .inl ⟨g2 (by rw [List.length_map]; exact Nat.le_refl _), kk D _ S2 H2 (e1.trans e2) q2 rfl⟩
theorem lc_el {ds : List PyData} (h : LcJ X K E Γ R e R1 ds) : EvL X K E Γ R e R1 ds := let ⟨t, h1, _, h3⟩ := h; ⟨t, h1, h3⟩
theorem blk_asgLc {elt : Expr} {gs : List Comprehension} {scope : Scope} {p2 : Pos} {ds : List PyData} (F : Fam X P w K mg base A N) (k : Nat) {y : Str} {py : Pos} (h : LcJ X K E Γ R (.ListComp elt gs scope p2) R1 ds) (hr : ∀ p, Blk X K E B (Γ.set k (some (sv (.ref p)))) (R1 ++ [rL p ds]) rest D)
    (hi : N[k]? = some y := by rfl) (hl : ∀ i, (X i).env.scope.names.lookup y = some .local := by exact fun _ => rfl) (hk : ∀ i, (X i).env.scope.kind = .function := by exact fun _ => rfl) (hp : (py.line == p2.line) = true := by rfl) (ha : (scope.names.any fun (n, k) => n == y && (k == .local || k == .cell)) = false := by decide +kernel) :
    Blk X K E B Γ R (.Assign [.Name y py] (.ListComp elt gs scope p2) pos :: rest) D := by
  obtain ⟨t, h1, h2, h3⟩ := h
  have hr' := fun n => Classical.choose_spec (hr n)
  refine ⟨tSeq (tAsg t (gName k)) _, fun i => pss_cons (h2 i k y py pos (by rw [F.fN i]; exact hi) (hl i) (sw_true (hk i) (hl i) hp ha)) (pss_any fun n => (hr' n).1 i), fun S σ H b q => ?_⟩
  exact h3 S σ H _ q fun n v S1 H1 e1 q1 r1 => ⟨n, (hr' n).2 S1 _ H1 (b.trans e1) (q1.setSlot k r1)⟩
theorem filt_true {α : Type} (xs : List α) : (xs.filter fun _ => true) = xs := List.filter_eq_self.mpr fun _ _ => rfl
/-- a block's end, with things of its own let go -/
theorem blk_endD {R2 : List Res} (hR : R = R' ++ R2) (h : All2 WkS Γ' Γ) (hD : D.nx = Pst K E B Γ' R') : Blk X K E B Γ R [] D := by
  subst hR
  exact blk_end (fun S σ H q => wkG h S σ H (SR.drop q)) hD
end
theorem cdivW {i j : Int} (h0 : 0 < j) (h1 : j < 4611686018427387904) : CDivW i j := by
  refine ⟨h0, ?_⟩
  have : j.natAbs.log2 < 62 := (Nat.log2_lt (by omega)).mpr (by omega)
  omega
theorem dint_ints (ns : List Int) : (ns.map PyData.int).map dint = ns := by
  rw [List.map_map]
  exact List.map_id' ns
theorem dstr_strs (ns : List Str) : (ns.map PyData.str).map dstr = ns := by
  rw [List.map_map]
  exact List.map_id' ns
theorem atI_ints {ns : List Int} {k : Nat} (h : k < ns.length) : atI (ns.map PyData.int) (k : Int) = some (.int (ns.getD k 0)) := by
  refine atI_nat ?_
  rw [List.getElem?_map, List.getD_eq_getElem?_getD, List.getElem?_eq_getElem h]
  rfl
theorem atI_strs {ns : List Str} {k : Nat} (h : k < ns.length) : atI (ns.map PyData.str) (k : Int) = some (.str (ns.getD k Str.empty)) := by
  refine atI_nat ?_
  rw [List.getElem?_map, List.getD_eq_getElem?_getD, List.getElem?_eq_getElem h]
  rfl
theorem getD_rng {α : Type} {f : Nat → α} {n x : Nat} {d : α} (h : x < n) : ((List.range n).map f).getD x d = f x := by
  rw [List.getD_eq_getElem?_getD, List.getElem?_map, List.getElem?_range h]
  rfl
theorem getD_mem {α : Type} {xs : List α} {x : Nat} {d : α} (h : x < xs.length) : xs.getD x d ∈ xs := by
  rw [List.getD_eq_getElem?_getD, List.getElem?_eq_getElem h]
  exact List.getElem_mem h
end SL

/-! dicts of one's own, by texts -/
namespace SL
open PySem PySem.Spec PyProof.Rows L2
/-! ### tables by texts -/
section
variable {β γ : Type}
def lk (l : List (Str × β)) (x : Str) : Option β := (l.find? fun a => decide (a.1 = x)).map (·.2)
def pt (l : List (Str × β)) (x : Str) (v : β) : List (Str × β) := if (l.any fun a => decide (a.1 = x)) = true then l.map (fun a => if a.1 = x then (a.1, v) else a) else l ++ [(x, v)]
def dr (l : List (Str × β)) (x : Str) : List (Str × β) := l.filter fun a => decide (a.1 ≠ x)
def onV (f : β → γ) (l : List (Str × β)) : List (Str × γ) := l.map fun a => (a.1, f a.2)
theorem lk_nil {x : Str} : lk ([] : List (Str × β)) x = none := rfl
theorem lk_pos {x y : Str} {v : β} {l : List (Str × β)} (e : y = x) : lk ((y, v) :: l) x = some v := by simp [lk, List.find?_cons, e]
theorem lk_neg {x y : Str} {v : β} {l : List (Str × β)} (e : ¬ y = x) : lk ((y, v) :: l) x = lk l x := by simp [lk, List.find?_cons, e]
theorem lk_onV (f : β → γ) : ∀ (l : List (Str × β)) (x : Str), lk (onV f l) x = (lk l x).map f
  | [], _ => rfl
  | (y, v) :: l, x => by
    by_cases e : y = x
    · rw [lk_pos e]
      show lk ((y, f v) :: onV f l) x = _
      rw [lk_pos e]; rfl
    · rw [lk_neg e]
      show lk ((y, f v) :: onV f l) x = _
      rw [lk_neg e]; exact lk_onV f l x
theorem any_onV (f : β → γ) (x : Str) : ∀ l : List (Str × β), ((onV f l).any fun a => decide (a.1 = x)) = l.any fun a => decide (a.1 = x)
  | [] => rfl
  | a :: l => by show (_ || (onV f l).any _) = _; rw [any_onV f x l]; rfl
theorem pt_onV (f : β → γ) (l : List (Str × β)) (x : Str) (v : β) : pt (onV f l) x (f v) = onV f (pt l x v) := by
  unfold pt
  rw [any_onV]
  split
  · simp only [onV, List.map_map]
    apply List.map_congr_left
    intro a _
    simp only [Function.comp]
    split <;> rfl
  · simp [onV]
theorem dr_onV (f : β → γ) (l : List (Str × β)) (x : Str) : dr (onV f l) x = onV f (dr l x) := by
  unfold dr onV
  rw [List.filter_map]
  rfl
theorem pt_len (l : List (Str × β)) (x : Str) (v : β) : (pt l x v).length ≤ l.length + 1 := by unfold pt; split <;> simp
theorem any_lk (x : Str) : ∀ l : List (Str × β), (l.any fun a => decide (a.1 = x)) = (lk l x).isSome
  | [] => rfl
  | (y, v) :: l => by
    by_cases e : y = x
    · rw [lk_pos e, List.any_cons]; simp [e]
    · rw [lk_neg e, List.any_cons, any_lk x l]; simp [e]
theorem pt_new {l : List (Str × β)} {x : Str} {v : β} (h : lk l x = none) : pt l x v = l ++ [(x, v)] := by
  unfold pt
  rw [any_lk, h]
  rfl
theorem lk_app {x : Str} : ∀ {l l' : List (Str × β)}, lk (l ++ l') x = (lk l x).or (lk l' x)
  | [], l' => by rw [lk_nil]; rfl
  | (y, v) :: l, l' => by
    by_cases e : y = x
    · rw [List.cons_append, lk_pos e, lk_pos e]; rfl
    · rw [List.cons_append, lk_neg e, lk_neg e]; exact lk_app
theorem lk_rep {x y : Str} {v : β} : ∀ l : List (Str × β), lk (l.map fun a => if a.1 = x then (a.1, v) else a) y = (lk l y).map fun u => if y = x then v else u
  | [] => rfl
  | (z, u) :: l => by
    rw [List.map_cons]
    by_cases ex : z = x
    · simp only [ex, if_true]
      by_cases ey : x = y
      · subst ey; rw [lk_pos rfl, lk_pos rfl]; simp
      · rw [lk_neg ey, lk_neg ey]; exact lk_rep l
    · simp only [ex, if_false]
      by_cases ey : z = y
      · rw [lk_pos ey, lk_pos ey]; simp [show ¬ y = x from fun h => ex (ey.trans h)]
      · rw [lk_neg ey, lk_neg ey]; exact lk_rep l
theorem lk_pt (l : List (Str × β)) (x y : Str) (v : β) : lk (pt l x v) y = if y = x then some v else lk l y := by
  unfold pt
  rw [any_lk]
  cases h : lk l x with
  | none =>
    rw [if_neg (by simp), lk_app]
    by_cases e : y = x
    · subst e; rw [h, lk_pos rfl, if_pos rfl]; rfl
    · rw [lk_neg (Ne.symm e), lk_nil, if_neg e]; simp
  | some u =>
    rw [if_pos (by simp), lk_rep]
    by_cases e : y = x
    · subst e; rw [h]; simp
    · simp [e]
end
/-- what a dict's pairs are -/
def KRs (K : PySem.W.Frag) (S : Hp) (kss : List (Str × Sl)) (kvs : List (Key × V)) : Prop := All2 (fun (a : Str × Sl) (b : Key × V) => b.1 = .inr a.1 ∧ a.2.r K S b.2) kss kvs
theorem KRs.mono {K : PySem.W.Frag} {S S' : Hp} {kss : List (Str × Sl)} {kvs : List (Key × V)} (e : Same S S') (h : KRs K S kss kvs) : KRs K S' kss kvs := h.imp fun a b g => ⟨g.1, a.2.mono e g.2⟩
theorem KRs.len {K : PySem.W.Frag} {S : Hp} {kss : List (Str × Sl)} {kvs : List (Key × V)} (h : KRs K S kss kvs) : kss.length = kvs.length := All2.len h
theorem KRs.val {K : PySem.W.Frag} {S : Hp} (x : Str) : ∀ {kss : List (Str × Sl)} {kvs : List (Key × V)}, KRs K S kss kvs → (lk kss x = none ∧ valV kvs (.inr x) = none) ∨ ∃ s v, lk kss x = some s ∧ valV kvs (.inr x) = some v ∧ s.r K S v
  | _, _, .nil => .inl ⟨rfl, rfl⟩
  | _, _, .cons (a := a) (b := b) ⟨h1, h2⟩ r => by
    obtain ⟨y, s⟩ := a
    obtain ⟨k, v⟩ := b
    subst h1
    by_cases e : y = x
    · subst e
      exact .inr ⟨s, v, lk_pos rfl, valV_pos rfl, h2⟩
    · rw [lk_neg e, valV_neg (fun z => e (Sum.inr.inj z))]
      exact KRs.val x r
theorem KRs.any {K : PySem.W.Frag} {S : Hp} (x : Str) {kss : List (Str × Sl)} {kvs : List (Key × V)} (h : KRs K S kss kvs) : (kss.any fun a => decide (a.1 = x)) = kvs.any fun kv => decide (kv.1 = .inr x) := by
  rw [any_lk, valV_any]
  rcases h.val x with ⟨a, b⟩ | ⟨s, v, a, b, _⟩ <;> rw [a, b] <;> rfl
theorem KRs.rep {K : PySem.W.Frag} {S : Hp} {s : Sl} {v : V} (x : Str) (hv : s.r K S v) : ∀ {kss : List (Str × Sl)} {kvs : List (Key × V)}, KRs K S kss kvs → KRs K S (kss.map fun a => if a.1 = x then (a.1, s) else a) (kvs.map fun kv => if kv.1 = .inr x then (kv.1, v) else kv)
  | _, _, .nil => .nil
  | _, _, .cons (a := a) (b := b) ⟨h1, h2⟩ r => by
    obtain ⟨y, t⟩ := a
    obtain ⟨k, u⟩ := b
    subst h1
    refine .cons ?_ (KRs.rep x hv r)
    by_cases e : y = x
    · subst e; simp; exact hv
    · have e' : ¬ (Sum.inr y : Key) = .inr x := fun z => e (Sum.inr.inj z)
      simp [e, e']; exact h2
theorem KRs.put {K : PySem.W.Frag} {S : Hp} {s : Sl} {v : V} (x : Str) (hv : s.r K S v) {kss : List (Str × Sl)} {kvs : List (Key × V)} (h : KRs K S kss kvs) : KRs K S (pt kss x s) (putK kvs (.inr x) v) := by
  unfold pt putK
  rw [h.any x]
  split
  · exact h.rep x hv
  · exact All2.app h (.cons ⟨rfl, hv⟩ .nil)
theorem KRs.drop {K : PySem.W.Frag} {S : Hp} (x : Str) : ∀ {kss : List (Str × Sl)} {kvs : List (Key × V)}, KRs K S kss kvs → KRs K S (dr kss x) (dropK kvs (.inr x))
  | _, _, .nil => .nil
  | _, _, .cons (a := a) (b := b) ⟨h1, h2⟩ r => by
    obtain ⟨y, t⟩ := a
    obtain ⟨k, u⟩ := b
    subst h1
    have ih := KRs.drop x r
    unfold dr dropK at ih ⊢
    by_cases e : y = x
    · subst e; simpa using ih
    · have e' : ¬ (Sum.inr y : Key) = .inr x := fun z => e (Sum.inr.inj z)
      rw [List.filter_cons_of_pos (by simpa using e), List.filter_cons_of_pos (by simpa using e')]
      exact .cons ⟨rfl, h2⟩ ih
/-- a dict at p -/
def rDs (p : Addr) (kss : List (Str × Sl)) : Res := ⟨fun K S O => ∃ kvs, O = hOne p (.dK kvs) ∧ KRs K S kss kvs, fun e ⟨kvs, h1, h2⟩ => ⟨kvs, h1, h2.mono e⟩⟩
/-- the same while it is walked -/
def rDz (p : Addr) (od : Obj) (kvs : List (Key × V)) (kss : List (Str × Sl)) : Res := ⟨fun K S O => O = hOne p (.frz od (.dK kvs)) ∧ KRs K S kss kvs, fun e ⟨h1, h2⟩ => ⟨h1, h2.mono e⟩⟩
section
variable {ι : Type} {X : ι → Cx} {K : PySem.W.Frag} {E : Ent} {B : Hp} {Γ Γ' : Slots} {R R' R1 R2' R3 : List Res} {a b c e o : Expr} {es : List Expr} {pos p' : Pos} {s s1 s2 s3 : Sl}
  {P : Program} {w : World} {mg : Str → Option Value} {base : Heap} {A : Around} {N : List Str} {rest sts : List Stmt} {D : Ends} {S S' H H' : Hp} {σ σ' : L2.St} {f : Str} {ps : List Str} {i j : Int} {x y : Str}
/-- what s says is a dict -/
def DcV (K : PySem.W.Frag) (R : List Res) (s : Sl) (kss : List (Str × Sl)) : Prop := ∀ (E : Ent) (Γ : Slots) (S : Hp) (σ : L2.St) (H : Hp) (v : V), SR K E Γ R S σ H → s.r K S v → ∃ p kvs, v = .ref p ∧ Rd H p (.dK kvs) ∧ KRs K S kss kvs
theorem dc_o (k : Nat) {p : Addr} {kss : List (Str × Sl)} (h : R[k]? = some (rDs p kss)) : DcV K R (sv (.ref p)) kss := fun E Γ S σ H v q r => by
  cases (show v = .ref p from r)
  obtain ⟨O, ⟨kvs, e, h1⟩, h2⟩ := q.res k h
  subst e
  exact ⟨p, kvs, rfl, .inl (h2 p _ hOne_same), h1⟩
theorem dc_z (k : Nat) {p : Addr} {od : Obj} {kvs : List (Key × V)} {kss : List (Str × Sl)} (h : R[k]? = some (rDz p od kvs kss)) : DcV K R (sv (.ref p)) kss := fun E Γ S σ H v q r => by
  cases (show v = .ref p from r)
  obtain ⟨O, ⟨e, h1⟩, h2⟩ := q.res k h
  subst e
  exact ⟨p, kvs, rfl, .inr ⟨od, h2 p _ hOne_same⟩, h1⟩
theorem SR.cellD (q : SR K E Γ R S σ H) (k : Nat) {p : Addr} {kss : List (Str × Sl)} (h : R[k]? = some (rDs p kss)) : ∃ kvs, H p = some (.dK kvs) ∧ KRs K S kss kvs := by
  obtain ⟨O, ⟨kvs, e, h1⟩, h2⟩ := q.res k h
  subst e
  exact ⟨kvs, h2 p _ hOne_same, h1⟩
theorem SR.putD (q : SR K E Γ R S σ H) (k : Nat) {p : Addr} {kss kss' : List (Str × Sl)} {kvs' : List (Key × V)} (hk : R[k]? = some (rDs p kss)) (h2 : KRs K S kss' kvs') : SR K E Γ (R.set k (rDs p kss')) S σ (upd H p (.dK kvs')) :=
  q.put k hk (fun O ⟨kvs, e, _⟩ => ⟨_, e⟩) ⟨kvs', rfl, h2⟩
theorem rd_get {K : PySem.W.Frag} {S H : Hp} {p : Addr} {kvs : List (Key × V)} {kss : List (Str × Sl)} (hr : Rd H p (.dK kvs)) (h : KRs K S kss kvs) (x : Str) : DGet H p (.str x) (valV kvs (.inr x)) := .inl ⟨kvs, .inr x, hr, rfl, rfl⟩
/-! reading -/
def rIxD : R2 := fun x y H Q => ∃ a v, x = .ref a ∧ DGet H a y (some v) ∧ Q v H
theorem ix_dict {X : Cx} (hu : X.A.units + 64 < cLine) : IxR X rIxD := by
  intro value slice pins s σ H x y v u Q I rx ry h hs
  obtain ⟨a, z, rfl, g, q⟩ := h
  obtain rfl : v = Value.ref a := rx
  exact tail_any (dict_typeIs I g) PySem.F.slot_dict_getitem.lookup (d_getItem (by omega) I g ry fun w' s' I' r' => ⟨z, H, I', r', q⟩) hs
theorem ix_dct {k : Nat} (F : Fam X P w K mg base A N) (hr : Room k A) {kss : List (Str × Sl)} (h : DcV K R s1 kss) (hi : lk kss x = some s) : IxJ X K E R s1 (dS x) s :=
  ⟨rIxD, fun n => ix_dict (by rw [F.fA n]; exact hr.units), fun Γ S σ H u y Q q r1 r2 k => by
    cases (show y = .str x from r2)
    obtain ⟨p, kvs, rfl, h1, h2⟩ := h E Γ S σ H u q r1
    rcases h2.val x with ⟨e, _⟩ | ⟨t, v, e1, e2, e3⟩
    · rw [hi] at e; cases e
    · rw [hi] at e1
      cases e1
      exact ⟨p, v, rfl, by rw [← e2]; exact rd_get h1 h2 x, k v S H (Same.refl _) q e3⟩⟩
def rInDc : R2 := fun y x H Q => ∃ a o, x = .ref a ∧ DGet H a y o ∧ Q (.bl o.isSome) H
def rNinDc : R2 := fun y x H Q => ∃ a o, x = .ref a ∧ DGet H a y o ∧ Q (.bl (!o.isSome)) H
theorem op_inDc {X : Cx} (hu : X.A.units + 64 < cLine) : OpR X (compareOp .In) rInDc := by
  intro pins s σ H y x v u Q I ry rx h
  obtain ⟨a, o, rfl, g, q⟩ := h
  obtain rfl : u = Value.ref a := rx
  exact d_in (by omega) I g ry fun s' I' => ⟨.bl o.isSome, H, I', rfl, q⟩
theorem op_ninDc {X : Cx} (hu : X.A.units + 64 < cLine) : OpR X (compareOp .NotIn) rNinDc := by
  intro pins s σ H y x v u Q I ry rx h
  obtain ⟨a, o, rfl, g, q⟩ := h
  obtain rfl : u = Value.ref a := rx
  exact d_notIn (by omega) I g ry fun s' I' => ⟨.bl (!o.isSome), H, I', rfl, q⟩
theorem KRs.some_eq {K : PySem.W.Frag} {S : Hp} {kss : List (Str × Sl)} {kvs : List (Key × V)} (h : KRs K S kss kvs) (x : Str) : (valV kvs (.inr x)).isSome = (lk kss x).isSome := by
  rcases h.val x with ⟨a, b⟩ | ⟨s, v, a, b, _⟩ <;> rw [a, b] <;> rfl
theorem br_inD {k : Nat} (F : Fam X P w K mg base A N) (hr : Room k A) {kss : List (Str × Sl)} (h : DcV K R s2 kss) : BinR X K E (compareOp .In) R (dS x) s2 (dB (lk kss x).isSome) :=
  ⟨rInDc, fun n => op_inDc (by rw [F.fA n]; exact hr.units), fun Γ S σ H u y Q q r1 r2 k => by
    cases (show u = .str x from r1)
    obtain ⟨p, kvs, rfl, h1, h2⟩ := h E Γ S σ H y q r2
    exact ⟨p, _, rfl, rd_get h1 h2 x, k _ S H (Same.refl _) q (by rw [h2.some_eq]; rfl)⟩⟩
theorem br_ninD {k : Nat} (F : Fam X P w K mg base A N) (hr : Room k A) {kss : List (Str × Sl)} (h : DcV K R s2 kss) : BinR X K E (compareOp .NotIn) R (dS x) s2 (dB (!(lk kss x).isSome)) :=
  ⟨rNinDc, fun n => op_ninDc (by rw [F.fA n]; exact hr.units), fun Γ S σ H u y Q q r1 r2 k => by
    cases (show u = .str x from r1)
    obtain ⟨p, kvs, rfl, h1, h2⟩ := h E Γ S σ H y q r2
    exact ⟨p, _, rfl, rd_get h1 h2 x, k _ S H (Same.refl _) q (by rw [h2.some_eq]; rfl)⟩⟩
theorem cl_lenD {kss : List (Str × Sl)} {p : Addr} (k : Nat) (h : R[k]? = some (rDs p kss)) : ClJ X K E (.builtin "len") R [sv (.ref p)] (dI kss.length) :=
  ⟨_, fun n => call_lenD, fun Γ S σ H vs Q q r k' => by
    obtain ⟨v, rfl, r1⟩ := all2_one r
    cases (show v = .ref p from r1)
    obtain ⟨kvs, h1, h2⟩ := q.cellD k h
    exact ⟨p, kvs, rfl, h1, k' _ S H (Same.refl _) q (by rw [← h2.len]; rfl)⟩⟩
/-- list(d) -/
theorem cl_listD (F : Fam X P w K mg base A N) {kss : List (Str × Sl)} (h : DcV K R s1 kss) (hcm : ∀ i, (X i).calm = true := by exact fun _ => rfl) : ClN X K E (.type "list") R [s1] (fun p : Addr => R ++ [rL p (kss.map fun a => .str a.1)]) (fun p => sv (.ref p)) :=
  ⟨_, fun n => call_listD (hcm n), fun Γ S σ H vs Q q r k => by
    obtain ⟨v, rfl, r1⟩ := all2_one r
    obtain ⟨p, kvs, rfl, h1, h2⟩ := h E Γ S σ H v q r1
    refine ⟨p, kvs, rfl, h1, fun l hl => k l _ S _ (Same.refl _) (q.mine hl ⟨_, rfl, ?_⟩) rfl⟩
    clear h q r k r1 h1 hl
    induction h2 with
    | nil => exact .nil
    | cons g t ih =>
      refine .cons ?_ ih
      show Da K S (kV _) _
      rw [g.1]
      exact .str _⟩
/-- dict(d) -/
theorem cl_dictD (F : Fam X P w K mg base A N) {kss : List (Str × Sl)} (h : DcV K R s1 kss) : ClN X K E (.type "dict") R [s1] (fun p : Addr => R ++ [rDs p kss]) (fun p => sv (.ref p)) :=
  ⟨_, fun n => call_dictD, fun Γ S σ H vs Q q r k => by
    obtain ⟨v, rfl, r1⟩ := all2_one r
    obtain ⟨p, kvs, rfl, h1, h2⟩ := h E Γ S σ H v q r1
    exact ⟨p, kvs, rfl, h1, fun l hl => k l _ S _ (Same.refl _) (q.mine hl ⟨kvs, rfl, h2⟩) rfl⟩⟩
/-! writing -/
theorem blk_put {n : Nat} (F : Fam X P w K mg base A N) (hr : Room n A) (k : Nat) {p : Addr} {kss : List (Str × Sl)} {p2 : Pos} {value i : Expr} (hv : EvJ X K E Γ R value R1 s) (ho : EvJ X K E Γ R1 o R1 (sv (.ref p))) (hi : EvJ X K E Γ R1 i R1 (dS x)) (hk : R1[k]? = some (rDs p kss)) (hz : kss.length < 10000000)
    (hr' : Blk X K E B Γ (R1.set k (rDs p (pt kss x s))) rest D) (hs : ∀ j, swapsWith value (some (.Subscript o i p2)) pos.line (X j).env = pure false := by exact fun _ => rfl) :
    Blk X K E B Γ R (.Assign [.Subscript o i p2] value pos :: rest) D := by
  obtain ⟨tv, v1, v2⟩ := hv
  obtain ⟨to, o1, o2⟩ := ho
  obtain ⟨ti, i1, i2⟩ := hi
  obtain ⟨u, g1, g2⟩ := hr'
  refine ⟨tSeq (sDPut to ti tv) u, fun j => pss_cons (ps_dput (by rw [F.fA j]; have := hr.units; omega) (o1 j) (i1 j) (v1 j) (hs j)) (g1 j), fun S σ H b q => ?_⟩
  refine v2 S σ H _ q fun v S1 H1 e1 q1 r1 => o2 S1 σ H1 _ q1 fun vo S2 H2 e2 q2 r2 => i2 S2 σ H2 _ q2 fun vi S3 H3 e3 q3 r3 => ?_
  cases (show vo = .ref p from r2)
  cases (show vi = .str x from r3)
  obtain ⟨kvs, h1, h2⟩ := q3.cellD k hk
  have hlen := h2.len
  refine ⟨p, _, rfl, DPut.k (k := .inr x) h1 ?_, g2 S3 σ _ (b.trans ((e1.trans e2).trans e3)) (q3.putD k hk (h2.put x (s.mono (e2.trans e3) r1)))⟩
  have : (sizeLine : Nat) = 16777216 := sizeLine_eq
  omega
/-! new -/
theorem el_dict0 : EvN X K E Γ R (.Dict [] [] pos) (fun p : Addr => R ++ [rDs p []]) (fun p => sv (.ref p)) :=
  ⟨tDNewK, fun _ => pe_dnewK, fun S σ H Q q k p hp => k p _ S _ (Same.refl _) (q.mine hp ⟨[], rfl, .nil⟩) rfl⟩
/-- an element of something new -/
theorem ev_ixN {ν : Type} {Rn : ν → List Res} {sn : ν → Sl} (ha : EvN X K E Γ R a (fun n => R1 ++ Rn n) sn) (hb : ∀ n, EvJ X K E Γ (R1 ++ Rn n) b (R1 ++ Rn n) s2) (ho : ∀ n, IxJ X K E (R1 ++ Rn n) (sn n) s2 s3) (hp : PlainIx b := by exact fun _ _ => rfl) : EvJ X K E Γ R (.Subscript a b pos) R1 s3 := by
  obtain ⟨ta, a1, a2⟩ := ha
  have hb' := fun n => Classical.choose_spec (hb n)
  have ho' := fun n => Classical.choose_spec (ho n)
  refine ⟨tOp (fun x y H Q => ∃ n, Classical.choose (ho n) x y H Q) ta _, fun i => pe_ix (fun value slice pins s σ H x y v u Q I rx ry ⟨n, h⟩ hs => (ho' n).1 i value slice pins s σ H x y v u Q I rx ry h hs) (a1 i) (pe_any fun n => (hb' n).1 i) hp, fun S σ H Q q k => ?_⟩
  refine a2 S σ H _ q fun n x S1 H1 e1 q1 r1 => ⟨n, (hb' n).2 S1 σ H1 _ q1 fun y S2 H2 e2 q2 r2 => ⟨n, ?_⟩⟩
  exact (ho' n).2 Γ S2 σ H2 x y Q q2 ((sn n).mono e2 r1) r2 fun v S3 H3 e3 q3 r3 => k v S3 H3 ((e1.trans e2).trans e3) q3.drop r3
/-- the pairs of a display -/
def PpJ {ν : Type} (X : ι → Cx) (K : PySem.W.Frag) (E : Ent) (Γ : Slots) (R : ν → List Res) (pos : Pos) (ks : List (Option Expr)) (vs : List Expr) (R' : ν → List Res) (kss : List (Str × Sl)) : Prop :=
  ∃ trs : List (TE × TE), (∀ i, PPs (X i) pos ks vs trs) ∧ ∀ n S σ H (Q : List (V × V) → Hp → Prop), SR K E Γ (R n) S σ H → (∀ kvs S' H', Same S S' → SR K E Γ (R' n) S' σ H' → KRs K S' kss kvs → Q (kvs.map fun kv => (kV kv.1, kv.2)) H') → tPairs trs σ H Q
theorem pp_nil {ν : Type} {R : ν → List Res} : PpJ X K E Γ R pos [] [] R [] := ⟨[], fun _ => pps_nil, fun n S σ H Q q k => k [] S H (Same.refl _) q .nil⟩
theorem pp_cons {ν : Type} {R R1 R2' : ν → List Res} {ks : List (Option Expr)} {vs : List Expr} {kss : List (Str × Sl)} (hk : ∀ n, EvJ X K E Γ (R n) a (R n) (dS x)) (hv : ∀ n, EvJ X K E Γ (R n) b (R1 n) s) (hr : PpJ X K E Γ R1 pos ks vs R2' kss) : PpJ X K E Γ R pos (some a :: ks) (b :: vs) R2' ((x, s) :: kss) := by
  have hk' := fun n => Classical.choose_spec (hk n)
  have hv' := fun n => Classical.choose_spec (hv n)
  obtain ⟨tr, r1, r2⟩ := hr
  refine ⟨(_, _) :: tr, fun i => pps_cons (pe_any fun n => (hk' n).1 i) (pe_any fun n => (hv' n).1 i) (r1 i), fun n S σ H Q q k => ⟨n, (hk' n).2 S σ H _ q fun v S1 H1 e1 q1 g1 => ⟨n, (hv' n).2 S1 σ H1 _ q1 fun u S2 H2 e2 q2 g2 => r2 n S2 σ H2 _ q2 fun kvs S3 H3 e3 q3 g3 => ?_⟩⟩⟩
  cases (show v = .str x from g1)
  exact k ((.inr x, u) :: kvs) S3 H3 ((e1.trans e2).trans e3) q3 (.cons ⟨rfl, s.mono e3 g2⟩ g3)
def mergeS (kss more : List (Str × Sl)) : List (Str × Sl) := more.foldl (fun acc a => pt acc a.1 a.2) kss
theorem KRs.merge {K : PySem.W.Frag} {S : Hp} : ∀ {more : List (Str × Sl)} {mv : List (Key × V)} {kss : List (Str × Sl)} {kvs : List (Key × V)}, KRs K S more mv → KRs K S kss kvs → KRs K S (mergeS kss more) (mergeK kvs mv)
  | _, _, _, _, .nil, h => h
  | _, _, kss, kvs, .cons (a := a) (b := b) (as := as) (bs := bs) ⟨h1, h2⟩ r, h => by
    obtain ⟨y, t⟩ := a
    obtain ⟨k, u⟩ := b
    subst h1
    have r' : KRs K S as bs := r
    show KRs K S (mergeS (pt kss y t) as) (mergeK (putK kvs (.inr y) u) bs)
    exact KRs.merge r' (h.put y h2)
/-- a display -/
theorem el_disp {Rn : Addr → List Res} {ks : List (Option Expr)} {vs : List Expr} {kss : List (Str × Sl)} (h : PpJ X K E Γ (fun p => R ++ [rDs p []]) pos ks vs (fun p => R ++ (rDs p [] :: Rn p)) kss) (hall : ks.all (·.isSome) = true := by rfl) (hl : ks.length = vs.length := by rfl) (h0 : ks ≠ [] := by exact fun h => nomatch h) (h15 : ks.length ≤ 15 := by exact Nat.le_of_ble_eq_true rfl) (hz : kss.length ≤ 15 := by exact Nat.le_of_ble_eq_true rfl) :
    EvN X K E Γ R (.Dict ks vs pos) (fun p : Addr => R ++ (rDs p (mergeS [] kss) :: Rn p)) (fun p => sv (.ref p)) := by
  obtain ⟨trs, h1, h2⟩ := h
  refine ⟨tDisp trs, fun i => pe_disp (h1 i) hall hl h0 h15, fun S σ H Q q k p hp => ?_⟩
  refine h2 p S σ _ _ (q.mine hp ⟨[], rfl, .nil⟩) fun kvs S1 H1 e1 q1 g1 => ?_
  have hk : (R ++ (rDs p [] :: Rn p))[R.length]? = some (rDs p []) := by simp
  obtain ⟨kvs0, c1, c2⟩ := q1.cellD R.length hk
  cases c2
  refine ⟨c1, kvs, rfl, by rw [← g1.len]; exact hz, ?_⟩
  have q2 := q1.putD R.length hk (KRs.merge g1 (show KRs K S1 [] [] from .nil))
  have e : (R ++ (rDs p [] :: Rn p)).set R.length (rDs p (mergeS [] kss)) = R ++ (rDs p (mergeS [] kss) :: Rn p) := by simp
  rw [e] at q2
  exact k p (.ref p) S1 _ e1 q2 rfl
/-! locked while it is walked -/
theorem SR.lock (q : SR K E Γ R S σ H) (m : Nat) {p : Addr} {kss : List (Str × Sl)} (hk : R[m]? = some (rDs p kss)) : ∃ kvs, H p = some (.dK kvs) ∧ ∀ od, SR K E Γ (R.set m (rDz p od kvs kss)) S σ (upd H p (.frz od (.dK kvs))) := by
  obtain ⟨kvs, h1, h2⟩ := q.cellD m hk
  exact ⟨kvs, h1, fun od => q.put m hk (fun O ⟨kvs, e, _⟩ => ⟨_, e⟩) ⟨rfl, h2⟩⟩
theorem SR.unlock (q : SR K E Γ R S σ H) (m : Nat) {p : Addr} {od : Obj} {kvs : List (Key × V)} {kss : List (Str × Sl)} (hk : R[m]? = some (rDz p od kvs kss)) : H p = some (.frz od (.dK kvs)) ∧ SR K E Γ (R.set m (rDs p kss)) S σ (upd H p (.dK kvs)) := by
  obtain ⟨O, ⟨e, h1⟩, h2⟩ := q.res m hk
  subst e
  exact ⟨h2 p _ hOne_same, q.put m hk (fun O ⟨e, _⟩ => ⟨_, e⟩) ⟨kvs, rfl, h1⟩⟩
theorem set_back {α : Type} {l : List α} {m : Nat} {x y : α} (h : l[m]? = some x) : (l.set m y).set m x = l := by
  rw [List.set_set]
  apply List.ext_getElem?
  intro j
  by_cases e : m = j
  · subst e
    obtain ⟨hl, he⟩ := List.getElem?_eq_some_iff.mp h
    rw [List.getElem?_set_self hl, h]
  · rw [List.getElem?_set_ne e]
theorem ev_lock {ν : Type} {Rn : ν → List Res} {sn : ν → Sl} (m : Nat) {p : Addr} {kss : List (Str × Sl)} (hk : R[m]? = some (rDs p kss)) (h : ∀ od kvs, EvN X K E Γ (R.set m (rDz p od kvs kss)) e (fun n => (Rn n).set m (rDz p od kvs kss)) sn) (hm : ∀ n, (Rn n)[m]? = some (rDs p kss)) : EvN X K E Γ R e Rn sn := by
  have h' := fun (z : Obj × List (Key × V)) => Classical.choose_spec (h z.1 z.2)
  refine ⟨tLockE fun σ H Q => ∃ z, Classical.choose (h z.1 z.2) σ H Q, fun i => pe_lock (pe_any fun z => (h' z).1 i), fun S σ H Q q k => ?_⟩
  obtain ⟨kvs, h1, h2⟩ := q.lock m hk
  refine ⟨p, .dK kvs, h1, trivial, fun od => ⟨(od, kvs), (h' (od, kvs)).2 S σ _ _ (h2 od) fun n v S1 H1 e1 q1 r1 => ?_⟩⟩
  have hm1 : ((Rn n).set m (rDz p od kvs kss))[m]? = some (rDz p od kvs kss) := List.getElem?_set_self (List.getElem?_eq_some_iff.mp (hm n)).1
  obtain ⟨g1, g2⟩ := q1.unlock m hm1
  rw [set_back (hm n)] at g2
  exact ⟨g1, k n v S1 _ e1 g2 r1⟩
theorem lc_lock (m : Nat) {p : Addr} {kss : List (Str × Sl)} {ds : List PyData} (hk : R[m]? = some (rDs p kss)) (h : ∀ od kvs, LcJ X K E Γ (R.set m (rDz p od kvs kss)) e (R.set m (rDz p od kvs kss)) ds) : LcJ X K E Γ R e R ds := by
  have h' := fun (z : Obj × List (Key × V)) => Classical.choose_spec (h z.1 z.2)
  refine ⟨tLockE fun σ H Q => ∃ z, Classical.choose (h z.1 z.2) σ H Q, fun i => pe_lock (pe_any fun z => (h' z).1 i), fun i k y py spos a1 a2 a3 => ?_, fun S σ H Q q k => ?_⟩
  · refine ⟨fun pins s σ H D I hw => ?_⟩
    obtain ⟨d, u, hd, mu, hw⟩ := hw
    have hps : PS (X i) (.Assign [.Name y py] e spos) (fun D σ H => ∃ z : Obj × List (Key × V), tAsg (Classical.choose (h z.1 z.2)) (gName k) D σ H) := ⟨fun pins s σ H D I ⟨z, hz⟩ => ((h' z).2.1 i k y py spos a1 a2 a3).run pins s σ H D I hz⟩
    refine (ps_lock hps).run pins s σ H D I ⟨d, u, hd, mu, fun od => ?_⟩
    obtain ⟨z, hz⟩ := hw od
    exact ⟨z, hz⟩
  obtain ⟨kvs, h1, h2⟩ := q.lock m hk
  refine ⟨p, .dK kvs, h1, trivial, fun od => ⟨(od, kvs), (h' (od, kvs)).2.2 S σ _ _ (h2 od) fun n v S1 H1 e1 q1 r1 => ?_⟩⟩
  have hlt := (List.getElem?_eq_some_iff.mp hk).1
  have hm1 : (R.set m (rDz p od kvs kss) ++ [rL n ds])[m]? = some (rDz p od kvs kss) := by rw [List.getElem?_append_left (by rw [List.length_set]; exact hlt)]; exact List.getElem?_set_self hlt
  obtain ⟨g1, g2⟩ := q1.unlock m hm1
  rw [List.set_append_left m _ (by rw [List.length_set]; exact hlt), set_back hk] at g2
  exact ⟨g1, k n v S1 _ e1 g2 r1⟩
theorem it_keys (F : Fam X P w K mg base A N) {tg : Expr} (m : Nat) {p : Addr} {od : Obj} {kvs : List (Key × V)} {kss : List (Str × Sl)} (h : EvJ X K E Γ R e R1 (sv (.ref p))) (hk : R1[m]? = some (rDz p od kvs kss)) : ItJ X K E Γ R tg e R1 (kss.map fun a => dS a.1) (fun R' => R'[m]? = some (rDz p od kvs kss)) := by
  obtain ⟨t, a1, a2⟩ := h
  refine ⟨iKeys t, fun i => pi_keys (a1 i), fun S σ H Rk q k => a2 S σ H _ q fun v S1 H1 e1 q1 r1 => ?_⟩
  cases (show v = .ref p from r1)
  obtain ⟨O, ⟨e2, h1⟩, h2⟩ := q1.res m hk
  subst e2
  refine ⟨p, od, rfl, .inl ⟨kvs, h2 p _ hOne_same, k _ S1 H1 e1 q1 fun n Γ' R' S' σ' H' e' q' hC => ?_⟩⟩
  obtain ⟨O, ⟨e3, g1⟩, g2⟩ := q'.res m hC
  subst e3
  have hlen := g1.len
  refine ⟨fun s hs => ?_, fun hn => ⟨g2 p _ hOne_same, by rw [List.length_map] at hn; omega⟩⟩
  rw [List.getElem?_map] at hs
  cases e4 : kss[n]? with
  | none => rw [e4] at hs; cases hs
  | some a =>
    rw [e4] at hs
    cases hs
    obtain ⟨b, e5, e6, e7⟩ := All2.get g1 e4
    refine ⟨⟨g2 p _ hOne_same, (List.getElem?_eq_some_iff.mp e5).1⟩, fun y H'' ⟨z1, k', v', z2, z3⟩ => ?_⟩
    subst z1 z3
    rw [e5] at z2
    cases z2
    refine ⟨S', Same.refl _, q', ?_⟩
    have e6' : k' = Sum.inr a.1 := e6
    rw [e6']
    rfl
/-! get, pop -/
theorem tyD {p : Addr} {kss : List (Str × Sl)} (k : Nat) (h : R[k]? = some (rDs p kss)) (Γ : Slots) (S : Hp) (σ : L2.St) (H : Hp) (x : V) (q : SR K E Γ R S σ H) (r : (sv (.ref p)).r K S x) : tyV K "dict" x H := by
  cases (show x = .ref p from r)
  obtain ⟨kvs, h1, _⟩ := q.cellD k h
  exact .inr (.inr (.inl ⟨rfl, .inl ⟨kvs, h1⟩⟩))
def rGet1 : V → List V → Hp → VK → Prop := fun x xs H Q => ∃ a y o, x = .ref a ∧ xs = [y] ∧ DGet H a y o ∧ Q (o.getD .non) H
theorem mt_get1 {X : Cx} (hu : X.A.units + 64 < cLine) : MtR X "dict.get" rGet1 := by
  intro pins s σ H x xs v us Q I rx ry h
  obtain ⟨a, y, o, rfl, rfl, g, q⟩ := h
  obtain rfl : v = Value.ref a := rx
  obtain ⟨u, rfl, ry'⟩ := vals1 ry
  exact d_get1 (by omega) I g ry' fun w' s' I' r' => ⟨_, H, I', r', q⟩
/-- d.get(k) -/
theorem ev_get (F : Fam X P w K mg base A N) {n : Nat} (hr : Room n A) (k : Nat) {p : Addr} {kss : List (Str × Sl)} {apos : Pos} (ho : EvJ X K E Γ R o R (sv (.ref p))) (ha : EvJ X K E Γ R e R (dS x)) (hk : R[k]? = some (rDs p kss))
    (hbase : ∀ i, attributeBase o "get" (X i).env (eval o (X i).env) = eval o (X i).env := by exact fun _ => rfl)
    (hfew : ∀ i, ((backTo pos (starEach [e] (X i).env)).all (fun x => !x.1) && (backToKw pos (keywordEach [] (X i).env)).all (fun x => x.1.isSome) && decide ([e].length + ([] : List Keyword).length + (if ([] : List Keyword).isEmpty then 0 else 1) < 30)) = true := by exact fun _ => rfl)
    (hline : (apos.endLine == pos.line) = true := by rfl) (hs : ∀ i, starEach [e] (X i).env = (false, eval e (X i).env) :: starEach [] (X i).env := by exact fun _ => rfl) (hplain : ∀ i, (backTo pos (starEach [] (X i).env)).any (·.1) = false := by exact fun _ => rfl) :
    EvJ X K E Γ R (.Call (.Attribute o "get" apos) [e] [] pos) R ((lk kss x).getD dN) := by
  refine ev_mt F PySem.F.plainAttrs_dict PySem.F.slot_dict_get PySem.F.type_dict_get ho (ar_cons ha ar_nil hs) ⟨rGet1, fun i => mt_get1 (by rw [F.fA i]; exact hr.units), tyD k hk, fun Γ S σ H u xs Q q r1 r2 k' => ?_⟩ hbase hfew hline hs hplain
  obtain ⟨v, rfl, r3⟩ := all2_one r2
  cases (show u = .ref p from r1)
  cases (show v = .str x from r3)
  obtain ⟨kvs, h1, h2⟩ := q.cellD k hk
  refine ⟨p, .str x, _, rfl, rfl, rd_get (.inl h1) h2 x, k' _ S H (Same.refl _) q ?_⟩
  rcases h2.val x with ⟨e1, e2⟩ | ⟨t, v, e1, e2, e3⟩
  · rw [e1, e2]; rfl
  · rw [e1, e2]; exact e3
def rPop1 : V → List V → Hp → VK → Prop := fun x xs H Q => ∃ a y kvs v, x = .ref a ∧ xs = [.str y] ∧ H a = some (.dK kvs) ∧ valV kvs (.inr y) = some v ∧ Q v (upd H a (.dK (dropK kvs (.inr y))))
theorem mt_pop1 {X : Cx} : MtR X "dict.pop" rPop1 := by
  intro pins s σ H x xs v us Q I rx ry h
  obtain ⟨a, y, kvs, v', rfl, rfl, e, g, q⟩ := h
  obtain rfl : v = Value.ref a := rx
  obtain ⟨u, rfl, ry'⟩ := vals1 ry
  exact d_pop (more := []) I e (show RelV (kV (.inr y)) u from ry') g (.inl rfl) fun w' s' I' r' => ⟨_, _, I', r', q⟩
/-- d.pop(k), there -/
theorem ev_pop (F : Fam X P w K mg base A N) (k : Nat) {p : Addr} {kss : List (Str × Sl)} {apos : Pos} (ho : EvJ X K E Γ R o R (sv (.ref p))) (ha : EvJ X K E Γ R e R (dS x)) (hk : R[k]? = some (rDs p kss)) (hl : lk kss x = some s)
    (hbase : ∀ i, attributeBase o "pop" (X i).env (eval o (X i).env) = eval o (X i).env := by exact fun _ => rfl)
    (hfew : ∀ i, ((backTo pos (starEach [e] (X i).env)).all (fun x => !x.1) && (backToKw pos (keywordEach [] (X i).env)).all (fun x => x.1.isSome) && decide ([e].length + ([] : List Keyword).length + (if ([] : List Keyword).isEmpty then 0 else 1) < 30)) = true := by exact fun _ => rfl)
    (hline : (apos.endLine == pos.line) = true := by rfl) (hs : ∀ i, starEach [e] (X i).env = (false, eval e (X i).env) :: starEach [] (X i).env := by exact fun _ => rfl) (hplain : ∀ i, (backTo pos (starEach [] (X i).env)).any (·.1) = false := by exact fun _ => rfl) :
    EvJ X K E Γ R (.Call (.Attribute o "pop" apos) [e] [] pos) (R.set k (rDs p (dr kss x))) s := by
  refine ev_mt F PySem.F.plainAttrs_dict PySem.F.slot_dict_pop PySem.F.type_dict_pop ho (ar_cons ha ar_nil hs) ⟨rPop1, fun i => mt_pop1, tyD k hk, fun Γ S σ H u xs Q q r1 r2 k' => ?_⟩ hbase hfew hline hs hplain
  obtain ⟨v, rfl, r3⟩ := all2_one r2
  cases (show u = .ref p from r1)
  cases (show v = .str x from r3)
  obtain ⟨kvs, h1, h2⟩ := q.cellD k hk
  rcases h2.val x with ⟨e1, e2⟩ | ⟨t, v, e1, e2, e3⟩
  · rw [hl] at e1; cases e1
  · rw [hl] at e1
    cases e1
    exact ⟨p, x, kvs, v, rfl, rfl, h1, e2, k' _ S _ (Same.refl _) (q.putD k hk (h2.drop x)) e3⟩
def rPop2 : V → List V → Hp → VK → Prop := fun x xs H Q => ∃ a y kvs z, x = .ref a ∧ xs = [.str y, z] ∧ H a = some (.dK kvs) ∧ ((∃ v, valV kvs (.inr y) = some v ∧ Q v (upd H a (.dK (dropK kvs (.inr y))))) ∨ (valV kvs (.inr y) = none ∧ Q z H))
theorem mt_pop2 {X : Cx} : MtR X "dict.pop" rPop2 := by
  intro pins s σ H x xs v us Q I rx ry h
  obtain ⟨a, y, kvs, z, rfl, rfl, e, g⟩ := h
  obtain rfl : v = Value.ref a := rx
  cases ry with
  | cons ry rz =>
    cases rz with
    | cons rz rn =>
      cases rn
      rcases g with ⟨v', g, q⟩ | ⟨g, q⟩
      · exact d_pop I e (show RelV (kV (.inr y)) _ from ry) g (.inr ⟨_, rfl⟩) fun w' s' I' r' => ⟨_, _, I', r', q⟩
      · exact d_popD I e (show RelV (kV (.inr y)) _ from ry) g fun s' I' => ⟨_, _, I', rz, q⟩
/-- d.pop(k, None) -/
theorem blk_popN (F : Fam X P w K mg base A N) (k : Nat) {p : Addr} {kss : List (Str × Sl)} {apos : Pos} {c : Expr} {p2 : Pos} (ho : EvJ X K E Γ R o R (sv (.ref p))) (ha : EvJ X K E Γ R e R (dS x)) (hc : EvJ X K E Γ R c R dN) (hk : R[k]? = some (rDs p kss)) (hr : Blk X K E B Γ (R.set k (rDs p (dr kss x))) rest D)
    (hbase : ∀ i, attributeBase o "pop" (X i).env (eval o (X i).env) = eval o (X i).env := by exact fun _ => rfl)
    (hfew : ∀ i, ((backTo pos (starEach [e, c] (X i).env)).all (fun x => !x.1) && (backToKw pos (keywordEach [] (X i).env)).all (fun x => x.1.isSome) && decide ([e, c].length + ([] : List Keyword).length + (if ([] : List Keyword).isEmpty then 0 else 1) < 30)) = true := by exact fun _ => rfl)
    (hline : (apos.endLine == pos.line) = true := by rfl) (hs : ∀ i, starEach [e, c] (X i).env = (false, eval e (X i).env) :: starEach [c] (X i).env := by exact fun _ => rfl) (hs' : ∀ i, starEach [c] (X i).env = (false, eval c (X i).env) :: starEach [] (X i).env := by exact fun _ => rfl) (hplain : ∀ i, (backTo pos (starEach [c] (X i).env)).any (·.1) = false := by exact fun _ => rfl) :
    Blk X K E B Γ R (.Expr (.Call (.Attribute o "pop" apos) [e, c] [] pos) p2 :: rest) D := by
  have hm : MtJ X K E "dict" "dict.pop" R (sv (.ref p)) [dS x, dN] (R.set k (rDs p (dr kss x))) ⟨fun _ _ _ => True, fun _ h => h⟩ := by
    refine ⟨rPop2, fun i => mt_pop2, tyD k hk, fun Γ S σ H u xs Q q r1 r2 k' => ?_⟩
    obtain ⟨v, z, rfl, r3, r4⟩ : ∃ v z, xs = [v, z] ∧ (dS x).r K S v ∧ dN.r K S z := by
      cases r2 with
      | cons a b =>
        cases b with
        | cons c d =>
          cases d
          exact ⟨_, _, rfl, a, c⟩
    cases (show u = .ref p from r1)
    cases (show v = .str x from r3)
    obtain ⟨kvs, h1, h2⟩ := q.cellD k hk
    refine ⟨p, x, kvs, z, rfl, rfl, h1, ?_⟩
    rcases h2.val x with ⟨e1, e2⟩ | ⟨t, v, e1, e2, e3⟩
    · refine .inr ⟨e2, k' _ S _ (Same.refl _) ?_ trivial⟩
      have := q.putD k hk (h2.drop x)
      have hd : dropK kvs (.inr x) = kvs := by
        unfold dropK
        rw [List.filter_eq_self]
        intro a ha
        have hn : (kvs.any fun kv => decide (kv.1 = .inr x)) = false := by rw [valV_any, e2]; rfl
        have := (List.any_eq_false.mp hn) a ha
        simpa using this
      rw [hd, show upd H p (.dK kvs) = H from ?_] at this
      · exact this
      · funext a
        by_cases ea : a = p
        · subst ea; rw [upd_same, h1]
        · rw [upd_ne ea]
    · exact .inl ⟨v, e2, k' _ S _ (Same.refl _) (q.putD k hk (h2.drop x)) trivial⟩
  exact blk_expr (ev_mt F PySem.F.plainAttrs_dict PySem.F.slot_dict_pop PySem.F.type_dict_pop ho (ar_cons ha (ar_cons hc ar_nil hs') hs) hm hbase hfew hline hs hplain) hr
end
section
variable {ι : Type} {X : ι → Cx} {K : PySem.W.Frag} {E : Ent} {B : Hp} {Γ Γ' : Slots} {R R' R1 R2' R3 : List Res} {e : Expr} {es : List Expr} {pos p' : Pos} {s s1 s2 s3 : Sl}
  {P : Program} {w : World} {mg : Str → Option Value} {base : Heap} {A : Around} {N : List Str} {D : Ends} {f : Str} {ps : List Str} {fa : Addr} {fd : FuncData} {k : Nat} {x qual : Str} {st : Stmt}
/-- a def of 1 that hands back something of which a law is told; new lists of its own -/
abbrev spE1 (K : PySem.W.Frag) {α ρ : Type} (pre : α → Prop) (d1 : α → Sl) (post : α → ρ → Prop) (res : ρ → Sl) : Sp := spJ K (θ := α) (ν := fun i => {n : ρ // post (i) n}) (fun i => pre (i)) (fun i => [d1 i]) (fun _ => []) (fun _ _ => []) (fun _ n => res n.1)
abbrev spM1 (K : PySem.W.Frag) {α ρ : Type} (pre : α → Prop) (d1 : α → Sl) (post : α → ρ → Prop) (lst : ρ → List PyData) : Sp := spJ K (θ := α) (ν := fun i => Addr × {n : ρ // post (i) n}) (fun i => pre (i)) (fun i => [d1 i]) (fun _ => []) (fun _ n => [rL n.1 (lst n.2.1)]) (fun _ n => sv (.ref n.1))
theorem en_call1 (F : Fam X P w K mg base A N) {α ρ : Type} {pre : α → Prop} {d1 : α → Sl} {post : α → ρ → Prop} {res : ρ → Sl} {x1 : α} (C : Cal P w K mg base A f ps (spE1 K pre d1 post res)) (ha : ArJ X K E Γ R (e :: es) R1 [d1 x1]) (hpre : pre x1) (hg : ∀ i, Gl (X i) f := by exact fun _ => rfl) (he : ∀ i, starEach (e :: es) (X i).env = (false, eval e (X i).env) :: starEach es (X i).env := by exact fun _ => rfl) (hpl : ∀ i, (backTo pos (starEach es (X i).env)).any (·.1) = false := by exact fun _ => rfl) (hdb : (f == ("__debug__" : Str)) = false := by decide) :
    EvN X K E Γ R (.Call (.Name f p') (e :: es) [] pos) (fun _ : {n : ρ // post x1 n} => R1) (fun n => res n.1) := by
  have := ev_callN (p' := p') F C x1 ha hpre hg he hpl hdb
  simp only [List.append_nil] at this
  exact this
theorem em_call1 (F : Fam X P w K mg base A N) {α ρ : Type} {pre : α → Prop} {d1 : α → Sl} {post : α → ρ → Prop} {lst : ρ → List PyData} {x1 : α} (C : Cal P w K mg base A f ps (spM1 K pre d1 post lst)) (ha : ArJ X K E Γ R (e :: es) R1 [d1 x1]) (hpre : pre x1) (hg : ∀ i, Gl (X i) f := by exact fun _ => rfl) (he : ∀ i, starEach (e :: es) (X i).env = (false, eval e (X i).env) :: starEach es (X i).env := by exact fun _ => rfl) (hpl : ∀ i, (backTo pos (starEach es (X i).env)).any (·.1) = false := by exact fun _ => rfl) (hdb : (f == ("__debug__" : Str)) = false := by decide) :
    EvN X K E Γ R (.Call (.Name f p') (e :: es) [] pos) (fun n : Addr × {n : ρ // post x1 n} => R1 ++ [rL n.1 (lst n.2.1)]) (fun n => sv (.ref n.1)) := ev_callN (p' := p') F C x1 ha hpre hg he hpl hdb
theorem fnE1 {α ρ : Type} {pre : α → Prop} {d1 : α → Sl} {post : α → ρ → Prop} {res : ρ → Sl} (F : Fun K x qual st fa fd) (Sc : FnScope N ps (defScope st)) (hl : ps.length = 1) (hb : ∀ x1, pre x1 → BodyOk P w K mg base N qual st fa k (ν := {n : ρ // post x1 n}) [d1 x1] (fun _ => []) (fun n => res n.1)) : FnOk P w K mg base CX0 (k + 1) fa fd ps (spE1 K pre d1 post res) :=
  fn_ok F Sc (fun _ => hl.symm) fun i cdv A outer s H S0 A0 E Q hr hp hq => hb (i) hp cdv A outer s H S0 A0 E Q hr (fam_fx Sc) hq
theorem fnM1 {α ρ : Type} {pre : α → Prop} {d1 : α → Sl} {post : α → ρ → Prop} {lst : ρ → List PyData} (F : Fun K x qual st fa fd) (Sc : FnScope N ps (defScope st)) (hl : ps.length = 1) (hb : ∀ x1, pre x1 → BodyOk P w K mg base N qual st fa k (ν := Addr × {n : ρ // post x1 n}) [d1 x1] (fun n => [rL n.1 (lst n.2.1)]) (fun n => sv (.ref n.1))) : FnOk P w K mg base CX0 (k + 1) fa fd ps (spM1 K pre d1 post lst) :=
  fn_ok F Sc (fun _ => hl.symm) fun i cdv A outer s H S0 A0 E Q hr hp hq => hb (i) hp cdv A outer s H S0 A0 E Q hr (fam_fx Sc) hq
/-- a def of 2 that hands back something of which a law is told; new lists of its own -/
abbrev spE2 (K : PySem.W.Frag) {α β ρ : Type} (pre : α → β → Prop) (d1 : α → Sl) (d2 : β → Sl) (post : α → β → ρ → Prop) (res : ρ → Sl) : Sp := spJ K (θ := α × β) (ν := fun i => {n : ρ // post (i.1) (i.2) n}) (fun i => pre (i.1) (i.2)) (fun i => [d1 (i.1), d2 (i.2)]) (fun _ => []) (fun _ _ => []) (fun _ n => res n.1)
abbrev spM2 (K : PySem.W.Frag) {α β ρ : Type} (pre : α → β → Prop) (d1 : α → Sl) (d2 : β → Sl) (post : α → β → ρ → Prop) (lst : ρ → List PyData) : Sp := spJ K (θ := α × β) (ν := fun i => Addr × {n : ρ // post (i.1) (i.2) n}) (fun i => pre (i.1) (i.2)) (fun i => [d1 (i.1), d2 (i.2)]) (fun _ => []) (fun _ n => [rL n.1 (lst n.2.1)]) (fun _ n => sv (.ref n.1))
theorem en_call2 (F : Fam X P w K mg base A N) {α β ρ : Type} {pre : α → β → Prop} {d1 : α → Sl} {d2 : β → Sl} {post : α → β → ρ → Prop} {res : ρ → Sl} {x1 : α} {x2 : β} (C : Cal P w K mg base A f ps (spE2 K pre d1 d2 post res)) (ha : ArJ X K E Γ R (e :: es) R1 [d1 x1, d2 x2]) (hpre : pre x1 x2) (hg : ∀ i, Gl (X i) f := by exact fun _ => rfl) (he : ∀ i, starEach (e :: es) (X i).env = (false, eval e (X i).env) :: starEach es (X i).env := by exact fun _ => rfl) (hpl : ∀ i, (backTo pos (starEach es (X i).env)).any (·.1) = false := by exact fun _ => rfl) (hdb : (f == ("__debug__" : Str)) = false := by decide) :
    EvN X K E Γ R (.Call (.Name f p') (e :: es) [] pos) (fun _ : {n : ρ // post x1 x2 n} => R1) (fun n => res n.1) := by
  have := ev_callN (p' := p') F C (x1, x2) ha hpre hg he hpl hdb
  simp only [List.append_nil] at this
  exact this
theorem em_call2 (F : Fam X P w K mg base A N) {α β ρ : Type} {pre : α → β → Prop} {d1 : α → Sl} {d2 : β → Sl} {post : α → β → ρ → Prop} {lst : ρ → List PyData} {x1 : α} {x2 : β} (C : Cal P w K mg base A f ps (spM2 K pre d1 d2 post lst)) (ha : ArJ X K E Γ R (e :: es) R1 [d1 x1, d2 x2]) (hpre : pre x1 x2) (hg : ∀ i, Gl (X i) f := by exact fun _ => rfl) (he : ∀ i, starEach (e :: es) (X i).env = (false, eval e (X i).env) :: starEach es (X i).env := by exact fun _ => rfl) (hpl : ∀ i, (backTo pos (starEach es (X i).env)).any (·.1) = false := by exact fun _ => rfl) (hdb : (f == ("__debug__" : Str)) = false := by decide) :
    EvN X K E Γ R (.Call (.Name f p') (e :: es) [] pos) (fun n : Addr × {n : ρ // post x1 x2 n} => R1 ++ [rL n.1 (lst n.2.1)]) (fun n => sv (.ref n.1)) := ev_callN (p' := p') F C (x1, x2) ha hpre hg he hpl hdb
theorem fnE2 {α β ρ : Type} {pre : α → β → Prop} {d1 : α → Sl} {d2 : β → Sl} {post : α → β → ρ → Prop} {res : ρ → Sl} (F : Fun K x qual st fa fd) (Sc : FnScope N ps (defScope st)) (hl : ps.length = 2) (hb : ∀ x1 x2, pre x1 x2 → BodyOk P w K mg base N qual st fa k (ν := {n : ρ // post x1 x2 n}) [d1 x1, d2 x2] (fun _ => []) (fun n => res n.1)) : FnOk P w K mg base CX0 (k + 1) fa fd ps (spE2 K pre d1 d2 post res) :=
  fn_ok F Sc (fun _ => hl.symm) fun i cdv A outer s H S0 A0 E Q hr hp hq => hb (i.1) (i.2) hp cdv A outer s H S0 A0 E Q hr (fam_fx Sc) hq
theorem fnM2 {α β ρ : Type} {pre : α → β → Prop} {d1 : α → Sl} {d2 : β → Sl} {post : α → β → ρ → Prop} {lst : ρ → List PyData} (F : Fun K x qual st fa fd) (Sc : FnScope N ps (defScope st)) (hl : ps.length = 2) (hb : ∀ x1 x2, pre x1 x2 → BodyOk P w K mg base N qual st fa k (ν := Addr × {n : ρ // post x1 x2 n}) [d1 x1, d2 x2] (fun n => [rL n.1 (lst n.2.1)]) (fun n => sv (.ref n.1))) : FnOk P w K mg base CX0 (k + 1) fa fd ps (spM2 K pre d1 d2 post lst) :=
  fn_ok F Sc (fun _ => hl.symm) fun i cdv A outer s H S0 A0 E Q hr hp hq => hb (i.1) (i.2) hp cdv A outer s H S0 A0 E Q hr (fam_fx Sc) hq
/-- a def of 3 that hands back something of which a law is told; new lists of its own -/
abbrev spE3 (K : PySem.W.Frag) {α β γ ρ : Type} (pre : α → β → γ → Prop) (d1 : α → Sl) (d2 : β → Sl) (d3 : γ → Sl) (post : α → β → γ → ρ → Prop) (res : ρ → Sl) : Sp := spJ K (θ := α × β × γ) (ν := fun i => {n : ρ // post (i.1) (i.2.1) (i.2.2) n}) (fun i => pre (i.1) (i.2.1) (i.2.2)) (fun i => [d1 (i.1), d2 (i.2.1), d3 (i.2.2)]) (fun _ => []) (fun _ _ => []) (fun _ n => res n.1)
abbrev spM3 (K : PySem.W.Frag) {α β γ ρ : Type} (pre : α → β → γ → Prop) (d1 : α → Sl) (d2 : β → Sl) (d3 : γ → Sl) (post : α → β → γ → ρ → Prop) (lst : ρ → List PyData) : Sp := spJ K (θ := α × β × γ) (ν := fun i => Addr × {n : ρ // post (i.1) (i.2.1) (i.2.2) n}) (fun i => pre (i.1) (i.2.1) (i.2.2)) (fun i => [d1 (i.1), d2 (i.2.1), d3 (i.2.2)]) (fun _ => []) (fun _ n => [rL n.1 (lst n.2.1)]) (fun _ n => sv (.ref n.1))
theorem en_call3 (F : Fam X P w K mg base A N) {α β γ ρ : Type} {pre : α → β → γ → Prop} {d1 : α → Sl} {d2 : β → Sl} {d3 : γ → Sl} {post : α → β → γ → ρ → Prop} {res : ρ → Sl} {x1 : α} {x2 : β} {x3 : γ} (C : Cal P w K mg base A f ps (spE3 K pre d1 d2 d3 post res)) (ha : ArJ X K E Γ R (e :: es) R1 [d1 x1, d2 x2, d3 x3]) (hpre : pre x1 x2 x3) (hg : ∀ i, Gl (X i) f := by exact fun _ => rfl) (he : ∀ i, starEach (e :: es) (X i).env = (false, eval e (X i).env) :: starEach es (X i).env := by exact fun _ => rfl) (hpl : ∀ i, (backTo pos (starEach es (X i).env)).any (·.1) = false := by exact fun _ => rfl) (hdb : (f == ("__debug__" : Str)) = false := by decide) :
    EvN X K E Γ R (.Call (.Name f p') (e :: es) [] pos) (fun _ : {n : ρ // post x1 x2 x3 n} => R1) (fun n => res n.1) := by
  have := ev_callN (p' := p') F C (x1, x2, x3) ha hpre hg he hpl hdb
  simp only [List.append_nil] at this
  exact this
theorem em_call3 (F : Fam X P w K mg base A N) {α β γ ρ : Type} {pre : α → β → γ → Prop} {d1 : α → Sl} {d2 : β → Sl} {d3 : γ → Sl} {post : α → β → γ → ρ → Prop} {lst : ρ → List PyData} {x1 : α} {x2 : β} {x3 : γ} (C : Cal P w K mg base A f ps (spM3 K pre d1 d2 d3 post lst)) (ha : ArJ X K E Γ R (e :: es) R1 [d1 x1, d2 x2, d3 x3]) (hpre : pre x1 x2 x3) (hg : ∀ i, Gl (X i) f := by exact fun _ => rfl) (he : ∀ i, starEach (e :: es) (X i).env = (false, eval e (X i).env) :: starEach es (X i).env := by exact fun _ => rfl) (hpl : ∀ i, (backTo pos (starEach es (X i).env)).any (·.1) = false := by exact fun _ => rfl) (hdb : (f == ("__debug__" : Str)) = false := by decide) :
    EvN X K E Γ R (.Call (.Name f p') (e :: es) [] pos) (fun n : Addr × {n : ρ // post x1 x2 x3 n} => R1 ++ [rL n.1 (lst n.2.1)]) (fun n => sv (.ref n.1)) := ev_callN (p' := p') F C (x1, x2, x3) ha hpre hg he hpl hdb
theorem fnE3 {α β γ ρ : Type} {pre : α → β → γ → Prop} {d1 : α → Sl} {d2 : β → Sl} {d3 : γ → Sl} {post : α → β → γ → ρ → Prop} {res : ρ → Sl} (F : Fun K x qual st fa fd) (Sc : FnScope N ps (defScope st)) (hl : ps.length = 3) (hb : ∀ x1 x2 x3, pre x1 x2 x3 → BodyOk P w K mg base N qual st fa k (ν := {n : ρ // post x1 x2 x3 n}) [d1 x1, d2 x2, d3 x3] (fun _ => []) (fun n => res n.1)) : FnOk P w K mg base CX0 (k + 1) fa fd ps (spE3 K pre d1 d2 d3 post res) :=
  fn_ok F Sc (fun _ => hl.symm) fun i cdv A outer s H S0 A0 E Q hr hp hq => hb (i.1) (i.2.1) (i.2.2) hp cdv A outer s H S0 A0 E Q hr (fam_fx Sc) hq
theorem fnM3 {α β γ ρ : Type} {pre : α → β → γ → Prop} {d1 : α → Sl} {d2 : β → Sl} {d3 : γ → Sl} {post : α → β → γ → ρ → Prop} {lst : ρ → List PyData} (F : Fun K x qual st fa fd) (Sc : FnScope N ps (defScope st)) (hl : ps.length = 3) (hb : ∀ x1 x2 x3, pre x1 x2 x3 → BodyOk P w K mg base N qual st fa k (ν := Addr × {n : ρ // post x1 x2 x3 n}) [d1 x1, d2 x2, d3 x3] (fun n => [rL n.1 (lst n.2.1)]) (fun n => sv (.ref n.1))) : FnOk P w K mg base CX0 (k + 1) fa fd ps (spM3 K pre d1 d2 d3 post lst) :=
  fn_ok F Sc (fun _ => hl.symm) fun i cdv A outer s H S0 A0 E Q hr hp hq => hb (i.1) (i.2.1) (i.2.2) hp cdv A outer s H S0 A0 E Q hr (fam_fx Sc) hq
/-- a def of 4 that hands back something of which a law is told; new lists of its own -/
abbrev spE4 (K : PySem.W.Frag) {α β γ δ ρ : Type} (pre : α → β → γ → δ → Prop) (d1 : α → Sl) (d2 : β → Sl) (d3 : γ → Sl) (d4 : δ → Sl) (post : α → β → γ → δ → ρ → Prop) (res : ρ → Sl) : Sp := spJ K (θ := α × β × γ × δ) (ν := fun i => {n : ρ // post (i.1) (i.2.1) (i.2.2.1) (i.2.2.2) n}) (fun i => pre (i.1) (i.2.1) (i.2.2.1) (i.2.2.2)) (fun i => [d1 (i.1), d2 (i.2.1), d3 (i.2.2.1), d4 (i.2.2.2)]) (fun _ => []) (fun _ _ => []) (fun _ n => res n.1)
abbrev spM4 (K : PySem.W.Frag) {α β γ δ ρ : Type} (pre : α → β → γ → δ → Prop) (d1 : α → Sl) (d2 : β → Sl) (d3 : γ → Sl) (d4 : δ → Sl) (post : α → β → γ → δ → ρ → Prop) (lst : ρ → List PyData) : Sp := spJ K (θ := α × β × γ × δ) (ν := fun i => Addr × {n : ρ // post (i.1) (i.2.1) (i.2.2.1) (i.2.2.2) n}) (fun i => pre (i.1) (i.2.1) (i.2.2.1) (i.2.2.2)) (fun i => [d1 (i.1), d2 (i.2.1), d3 (i.2.2.1), d4 (i.2.2.2)]) (fun _ => []) (fun _ n => [rL n.1 (lst n.2.1)]) (fun _ n => sv (.ref n.1))
theorem en_call4 (F : Fam X P w K mg base A N) {α β γ δ ρ : Type} {pre : α → β → γ → δ → Prop} {d1 : α → Sl} {d2 : β → Sl} {d3 : γ → Sl} {d4 : δ → Sl} {post : α → β → γ → δ → ρ → Prop} {res : ρ → Sl} {x1 : α} {x2 : β} {x3 : γ} {x4 : δ} (C : Cal P w K mg base A f ps (spE4 K pre d1 d2 d3 d4 post res)) (ha : ArJ X K E Γ R (e :: es) R1 [d1 x1, d2 x2, d3 x3, d4 x4]) (hpre : pre x1 x2 x3 x4) (hg : ∀ i, Gl (X i) f := by exact fun _ => rfl) (he : ∀ i, starEach (e :: es) (X i).env = (false, eval e (X i).env) :: starEach es (X i).env := by exact fun _ => rfl) (hpl : ∀ i, (backTo pos (starEach es (X i).env)).any (·.1) = false := by exact fun _ => rfl) (hdb : (f == ("__debug__" : Str)) = false := by decide) :
    EvN X K E Γ R (.Call (.Name f p') (e :: es) [] pos) (fun _ : {n : ρ // post x1 x2 x3 x4 n} => R1) (fun n => res n.1) := by
  have := ev_callN (p' := p') F C (x1, x2, x3, x4) ha hpre hg he hpl hdb
  simp only [List.append_nil] at this
  exact this
theorem em_call4 (F : Fam X P w K mg base A N) {α β γ δ ρ : Type} {pre : α → β → γ → δ → Prop} {d1 : α → Sl} {d2 : β → Sl} {d3 : γ → Sl} {d4 : δ → Sl} {post : α → β → γ → δ → ρ → Prop} {lst : ρ → List PyData} {x1 : α} {x2 : β} {x3 : γ} {x4 : δ} (C : Cal P w K mg base A f ps (spM4 K pre d1 d2 d3 d4 post lst)) (ha : ArJ X K E Γ R (e :: es) R1 [d1 x1, d2 x2, d3 x3, d4 x4]) (hpre : pre x1 x2 x3 x4) (hg : ∀ i, Gl (X i) f := by exact fun _ => rfl) (he : ∀ i, starEach (e :: es) (X i).env = (false, eval e (X i).env) :: starEach es (X i).env := by exact fun _ => rfl) (hpl : ∀ i, (backTo pos (starEach es (X i).env)).any (·.1) = false := by exact fun _ => rfl) (hdb : (f == ("__debug__" : Str)) = false := by decide) :
    EvN X K E Γ R (.Call (.Name f p') (e :: es) [] pos) (fun n : Addr × {n : ρ // post x1 x2 x3 x4 n} => R1 ++ [rL n.1 (lst n.2.1)]) (fun n => sv (.ref n.1)) := ev_callN (p' := p') F C (x1, x2, x3, x4) ha hpre hg he hpl hdb
theorem fnE4 {α β γ δ ρ : Type} {pre : α → β → γ → δ → Prop} {d1 : α → Sl} {d2 : β → Sl} {d3 : γ → Sl} {d4 : δ → Sl} {post : α → β → γ → δ → ρ → Prop} {res : ρ → Sl} (F : Fun K x qual st fa fd) (Sc : FnScope N ps (defScope st)) (hl : ps.length = 4) (hb : ∀ x1 x2 x3 x4, pre x1 x2 x3 x4 → BodyOk P w K mg base N qual st fa k (ν := {n : ρ // post x1 x2 x3 x4 n}) [d1 x1, d2 x2, d3 x3, d4 x4] (fun _ => []) (fun n => res n.1)) : FnOk P w K mg base CX0 (k + 1) fa fd ps (spE4 K pre d1 d2 d3 d4 post res) :=
  fn_ok F Sc (fun _ => hl.symm) fun i cdv A outer s H S0 A0 E Q hr hp hq => hb (i.1) (i.2.1) (i.2.2.1) (i.2.2.2) hp cdv A outer s H S0 A0 E Q hr (fam_fx Sc) hq
theorem fnM4 {α β γ δ ρ : Type} {pre : α → β → γ → δ → Prop} {d1 : α → Sl} {d2 : β → Sl} {d3 : γ → Sl} {d4 : δ → Sl} {post : α → β → γ → δ → ρ → Prop} {lst : ρ → List PyData} (F : Fun K x qual st fa fd) (Sc : FnScope N ps (defScope st)) (hl : ps.length = 4) (hb : ∀ x1 x2 x3 x4, pre x1 x2 x3 x4 → BodyOk P w K mg base N qual st fa k (ν := Addr × {n : ρ // post x1 x2 x3 x4 n}) [d1 x1, d2 x2, d3 x3, d4 x4] (fun n => [rL n.1 (lst n.2.1)]) (fun n => sv (.ref n.1))) : FnOk P w K mg base CX0 (k + 1) fa fd ps (spM4 K pre d1 d2 d3 d4 post lst) :=
  fn_ok F Sc (fun _ => hl.symm) fun i cdv A outer s H S0 A0 E Q hr hp hq => hb (i.1) (i.2.1) (i.2.2.1) (i.2.2.2) hp cdv A outer s H S0 A0 E Q hr (fam_fx Sc) hq
/-- a def of 5 that hands back something of which a law is told; new lists of its own -/
abbrev spE5 (K : PySem.W.Frag) {α β γ δ ε ρ : Type} (pre : α → β → γ → δ → ε → Prop) (d1 : α → Sl) (d2 : β → Sl) (d3 : γ → Sl) (d4 : δ → Sl) (d5 : ε → Sl) (post : α → β → γ → δ → ε → ρ → Prop) (res : ρ → Sl) : Sp := spJ K (θ := α × β × γ × δ × ε) (ν := fun i => {n : ρ // post (i.1) (i.2.1) (i.2.2.1) (i.2.2.2.1) (i.2.2.2.2) n}) (fun i => pre (i.1) (i.2.1) (i.2.2.1) (i.2.2.2.1) (i.2.2.2.2)) (fun i => [d1 (i.1), d2 (i.2.1), d3 (i.2.2.1), d4 (i.2.2.2.1), d5 (i.2.2.2.2)]) (fun _ => []) (fun _ _ => []) (fun _ n => res n.1)
abbrev spM5 (K : PySem.W.Frag) {α β γ δ ε ρ : Type} (pre : α → β → γ → δ → ε → Prop) (d1 : α → Sl) (d2 : β → Sl) (d3 : γ → Sl) (d4 : δ → Sl) (d5 : ε → Sl) (post : α → β → γ → δ → ε → ρ → Prop) (lst : ρ → List PyData) : Sp := spJ K (θ := α × β × γ × δ × ε) (ν := fun i => Addr × {n : ρ // post (i.1) (i.2.1) (i.2.2.1) (i.2.2.2.1) (i.2.2.2.2) n}) (fun i => pre (i.1) (i.2.1) (i.2.2.1) (i.2.2.2.1) (i.2.2.2.2)) (fun i => [d1 (i.1), d2 (i.2.1), d3 (i.2.2.1), d4 (i.2.2.2.1), d5 (i.2.2.2.2)]) (fun _ => []) (fun _ n => [rL n.1 (lst n.2.1)]) (fun _ n => sv (.ref n.1))
theorem en_call5 (F : Fam X P w K mg base A N) {α β γ δ ε ρ : Type} {pre : α → β → γ → δ → ε → Prop} {d1 : α → Sl} {d2 : β → Sl} {d3 : γ → Sl} {d4 : δ → Sl} {d5 : ε → Sl} {post : α → β → γ → δ → ε → ρ → Prop} {res : ρ → Sl} {x1 : α} {x2 : β} {x3 : γ} {x4 : δ} {x5 : ε} (C : Cal P w K mg base A f ps (spE5 K pre d1 d2 d3 d4 d5 post res)) (ha : ArJ X K E Γ R (e :: es) R1 [d1 x1, d2 x2, d3 x3, d4 x4, d5 x5]) (hpre : pre x1 x2 x3 x4 x5) (hg : ∀ i, Gl (X i) f := by exact fun _ => rfl) (he : ∀ i, starEach (e :: es) (X i).env = (false, eval e (X i).env) :: starEach es (X i).env := by exact fun _ => rfl) (hpl : ∀ i, (backTo pos (starEach es (X i).env)).any (·.1) = false := by exact fun _ => rfl) (hdb : (f == ("__debug__" : Str)) = false := by decide) :
    EvN X K E Γ R (.Call (.Name f p') (e :: es) [] pos) (fun _ : {n : ρ // post x1 x2 x3 x4 x5 n} => R1) (fun n => res n.1) := by
  have := ev_callN (p' := p') F C (x1, x2, x3, x4, x5) ha hpre hg he hpl hdb
  simp only [List.append_nil] at this
  exact this
theorem em_call5 (F : Fam X P w K mg base A N) {α β γ δ ε ρ : Type} {pre : α → β → γ → δ → ε → Prop} {d1 : α → Sl} {d2 : β → Sl} {d3 : γ → Sl} {d4 : δ → Sl} {d5 : ε → Sl} {post : α → β → γ → δ → ε → ρ → Prop} {lst : ρ → List PyData} {x1 : α} {x2 : β} {x3 : γ} {x4 : δ} {x5 : ε} (C : Cal P w K mg base A f ps (spM5 K pre d1 d2 d3 d4 d5 post lst)) (ha : ArJ X K E Γ R (e :: es) R1 [d1 x1, d2 x2, d3 x3, d4 x4, d5 x5]) (hpre : pre x1 x2 x3 x4 x5) (hg : ∀ i, Gl (X i) f := by exact fun _ => rfl) (he : ∀ i, starEach (e :: es) (X i).env = (false, eval e (X i).env) :: starEach es (X i).env := by exact fun _ => rfl) (hpl : ∀ i, (backTo pos (starEach es (X i).env)).any (·.1) = false := by exact fun _ => rfl) (hdb : (f == ("__debug__" : Str)) = false := by decide) :
    EvN X K E Γ R (.Call (.Name f p') (e :: es) [] pos) (fun n : Addr × {n : ρ // post x1 x2 x3 x4 x5 n} => R1 ++ [rL n.1 (lst n.2.1)]) (fun n => sv (.ref n.1)) := ev_callN (p' := p') F C (x1, x2, x3, x4, x5) ha hpre hg he hpl hdb
theorem fnE5 {α β γ δ ε ρ : Type} {pre : α → β → γ → δ → ε → Prop} {d1 : α → Sl} {d2 : β → Sl} {d3 : γ → Sl} {d4 : δ → Sl} {d5 : ε → Sl} {post : α → β → γ → δ → ε → ρ → Prop} {res : ρ → Sl} (F : Fun K x qual st fa fd) (Sc : FnScope N ps (defScope st)) (hl : ps.length = 5) (hb : ∀ x1 x2 x3 x4 x5, pre x1 x2 x3 x4 x5 → BodyOk P w K mg base N qual st fa k (ν := {n : ρ // post x1 x2 x3 x4 x5 n}) [d1 x1, d2 x2, d3 x3, d4 x4, d5 x5] (fun _ => []) (fun n => res n.1)) : FnOk P w K mg base CX0 (k + 1) fa fd ps (spE5 K pre d1 d2 d3 d4 d5 post res) :=
  fn_ok F Sc (fun _ => hl.symm) fun i cdv A outer s H S0 A0 E Q hr hp hq => hb (i.1) (i.2.1) (i.2.2.1) (i.2.2.2.1) (i.2.2.2.2) hp cdv A outer s H S0 A0 E Q hr (fam_fx Sc) hq
theorem fnM5 {α β γ δ ε ρ : Type} {pre : α → β → γ → δ → ε → Prop} {d1 : α → Sl} {d2 : β → Sl} {d3 : γ → Sl} {d4 : δ → Sl} {d5 : ε → Sl} {post : α → β → γ → δ → ε → ρ → Prop} {lst : ρ → List PyData} (F : Fun K x qual st fa fd) (Sc : FnScope N ps (defScope st)) (hl : ps.length = 5) (hb : ∀ x1 x2 x3 x4 x5, pre x1 x2 x3 x4 x5 → BodyOk P w K mg base N qual st fa k (ν := Addr × {n : ρ // post x1 x2 x3 x4 x5 n}) [d1 x1, d2 x2, d3 x3, d4 x4, d5 x5] (fun n => [rL n.1 (lst n.2.1)]) (fun n => sv (.ref n.1))) : FnOk P w K mg base CX0 (k + 1) fa fd ps (spM5 K pre d1 d2 d3 d4 d5 post lst) :=
  fn_ok F Sc (fun _ => hl.symm) fun i cdv A outer s H S0 A0 E Q hr hp hq => hb (i.1) (i.2.1) (i.2.2.1) (i.2.2.2.1) (i.2.2.2.2) hp cdv A outer s H S0 A0 E Q hr (fam_fx Sc) hq
theorem retX {ρ : Type} {post : ρ → Prop} {res : ρ → Sl} {Q : VK} (hq : RetOk (ν := {n : ρ // post n}) K E (fun _ => []) (fun n => res n.1) Q) (n : ρ) (hp : post n) (h : s = res n) : ∀ S σ H v, SR K E Γ R1 S σ H → s.r K S v → Q v H := fun S σ H v q r => hq ⟨n, hp⟩ Γ S σ H v (SR.drop (R := []) q) (by subst h; exact r)
theorem retMK {ρ : Type} {post : ρ → Prop} {lst : ρ → List PyData} (k : Nat) {p : Addr} {ds' : List PyData} {Q : VK} (hq : RetOk (ν := Addr × {n : ρ // post n}) K E (fun n => [rL n.1 (lst n.2.1)]) (fun n => sv (.ref n.1)) Q) (n : ρ) (hp : post n) (h : ds' = lst n) (hk : R1[k]? = some (rL p ds') := by rfl) : ∀ S σ H v, SR K E Γ R1 S σ H → (sv (.ref p)).r K S v → Q v H := fun S σ H v q r => by
  subst h
  exact hq (p, ⟨n, hp⟩) Γ S σ H v (q.pick k hk) r
theorem retML {ρ : Type} {post : ρ → Prop} {lst : ρ → List PyData} {ds' : List PyData} {Q : VK} (hq : RetOk (ν := Addr × {n : ρ // post n}) K E (fun n => [rL n.1 (lst n.2.1)]) (fun n => sv (.ref n.1)) Q) (n : ρ) (hp : post n) (h : ds' = lst n) : ∀ p S σ H v, SR K E Γ (R1 ++ [rL p ds']) S σ H → (sv (.ref p)).r K S v → Q v H := fun p S σ H v q r => by
  subst h
  exact hq (p, ⟨n, hp⟩) Γ S σ H v (q.pick R1.length (by simp)) r
end
end SL

/-! texts by their signs -/
namespace SL
open PySem PySem.Spec PyProof.Rows L2
def tx (l : List Nat) : Str := ⟨l.toArray⟩
def sg (x : Str) : List Nat := x.cps.toList
theorem sg_tx (l : List Nat) : sg (tx l) = l := rfl
theorem tx_sg (x : Str) : tx (sg x) = x := rfl
theorem len_sg (x : Str) : x.length = (sg x).length := rfl
theorem len_tx (l : List Nat) : (tx l).length = l.length := by rw [len_sg, sg_tx]
theorem sg_inj {x y : Str} (h : sg x = sg y) : x = y := by rw [← tx_sg x, ← tx_sg y, h]
theorem sg_app (x y : Str) : sg (x ++ y) = sg x ++ sg y := by
  show (x.cps ++ y.cps).toList = _
  rw [Array.toList_append]
  rfl
theorem tx_app (l m : List Nat) : tx l ++ tx m = tx (l ++ m) := sg_inj (by rw [sg_app]; rfl)
theorem sg_cut (x : Str) (lo hi : Option Int) : sg (cutS x lo hi) = cutD (sg x) lo hi := rfl
theorem tx_cut (l : List Nat) (lo hi : Option Int) : cutS (tx l) lo hi = tx (cutD l lo hi) := by
  apply sg_inj
  rw [sg_cut, sg_tx, sg_tx]
theorem cutD_len {α : Type} (l : List α) (lo hi : Option Int) : (cutD l lo hi).length ≤ l.length := by
  unfold cutD
  rw [List.length_take, List.length_drop]
  omega
theorem cutS_len (x : Str) (lo hi : Option Int) : (cutS x lo hi).length ≤ x.length := cutD_len (sg x) lo hi
theorem cutD_to {α : Type} (l : List α) {k : Nat} (h : k ≤ l.length) : cutD l none (some (k : Int)) = l.take k := by
  unfold cutD
  rw [HT.sIx_nat, HT.sIx_none, List.drop_zero, Nat.sub_zero, Nat.min_eq_left h]
theorem cutD_from {α : Type} (l : List α) {k : Nat} (h : k ≤ l.length) : cutD l (some (k : Int)) none = l.drop k := by
  unfold cutD
  rw [HT.sIx_nat, HT.sIx_none, Nat.min_eq_left h, List.take_of_length_le]
  rw [List.length_drop]
  exact Nat.le_refl _
theorem cutD_mid {α : Type} (l : List α) {k m : Nat} (h : k ≤ l.length) (hm : m ≤ l.length) : cutD l (some (k : Int)) (some (m : Int)) = (l.drop k).take (m - k) := by
  unfold cutD
  rw [HT.sIx_nat, HT.sIx_nat, Nat.min_eq_left h, Nat.min_eq_left hm]
theorem app_len (x y : Str) : (x ++ y).length = x.length + y.length := by rw [len_sg, sg_app, List.length_append]; rfl
theorem sign_len (n : Nat) : (⟨#[n]⟩ : Str).length = 1 := rfl
theorem sg_join (y : Str) (ls : List Str) : sg (Txt.join y ls) = TL.joinL (sg y) (ls.map sg) := by
  have h := eq_of_beq (join_plain_closes y ls)
  rw [h]
  exact TL.tl_join y ls
theorem joinL_nil : ∀ ls : List (List Nat), TL.joinL [] ls = ls.flatten
  | [] => rfl
  | [p] => by simp [TL.joinL]
  | p :: q :: r => by rw [TL.joinL, joinL_nil (q :: r)]; simp
theorem sg_join0 (ls : List Str) : sg (Txt.join ("" : Str) ls) = (ls.map sg).flatten := by
  rw [sg_join]
  exact joinL_nil _
theorem join_signs {α : Type} (f : α → Nat) (xs : List α) : Txt.join ("" : Str) (xs.map fun a => (⟨#[f a]⟩ : Str)) = tx (xs.map f) := by
  apply sg_inj
  rw [sg_join0, sg_tx, List.map_map]
  induction xs with
  | nil => rfl
  | cons a xs ih => rw [List.map_cons, List.flatten_cons, ih]; rfl
theorem join_sum {α : Type} (f : α → Nat) (xs : List α) : ((List.map dstr (xs.map fun a => PyData.str ⟨#[f a]⟩)).map (·.length)).sum = xs.length := by
  induction xs with
  | nil => rfl
  | cons a xs ih =>
    simp only [List.map_cons, List.sum_cons, ih, List.length_cons]
    show 1 + _ = _
    omega
theorem join_txt {α : Type} (f : α → Nat) (xs : List α) : Txt.join ("" : Str) (List.map dstr (xs.map fun a => PyData.str ⟨#[f a]⟩)) = tx (xs.map f) := by
  rw [List.map_map]
  exact join_signs f xs
theorem sz {n : Nat} (h : n ≤ 16777216) : n ≤ sizeLine := by rw [sizeLine_eq]; exact h
section
variable {ι : Type} {X : ι → Cx} {K : PySem.W.Frag} {E : Ent} {Γ : Slots} {R : List Res} {pos : Pos} {P : Program} {w : World} {mg : Str → Option Value} {base : Heap} {A : Around} {N : List Str} {x y : Str} {i : Int}
theorem ev_globS (F : Fam X P w K mg base A N) (hm : ∃ t, mg x = some (.str y t)) (hg : ∀ i, Gl (X i) x := by exact fun _ => rfl) (hd : (x == ("__debug__" : Str)) = false := by decide) : EvJ X K E Γ R (.Name x pos) R (dS y) := let ⟨t, h⟩ := hm; ev_glob F h ⟨t, rfl⟩ hg hd
theorem ev_globI (F : Fam X P w K mg base A N) (hm : ∃ t, mg x = some (.int i t)) (hg : ∀ i, Gl (X i) x := by exact fun _ => rfl) (hd : (x == ("__debug__" : Str)) = false := by decide) : EvJ X K E Γ R (.Name x pos) R (dI i) := let ⟨t, h⟩ := hm; ev_glob F h ⟨t, rfl⟩ hg hd
end
end SL

/-! more of texts; items set -/
namespace SL
open PySem PySem.Spec PyProof.Rows L2
def tRevS (te : TE) : TE := fun σ H Q => te σ H fun x H1 => ∃ z, x = .str z ∧ z.length ≤ sizeLine ∧ Q (.str (tx (sg z).reverse)) H1
theorem rev_by (x : Str) (u : Tok) : ((Builtin.Str.strSliceIndices none none (-1) x.length).filterMap (x.cps[·]?)).toArray = (tx (sg x).reverse).cps := by
  have h := step_rev_list x u
  have h2 : (Txt.sliceBy x none none (-1, u)).cps.toList = ((Builtin.Str.strSliceIndices none none (-1) x.length).filterMap (x.cps[·]?)).toArray.toList := by
    unfold Txt.sliceBy
    rw [if_neg]
    · rfl
    · have : ((((some ((-1 : Int), u)).map (·.1)).getD 1 == 1)) = false := rfl
      rw [this]; simp
  apply Array.toList_inj.mp
  rw [← h2, h]
  show _ = (sg x).reverse
  apply List.ext_getElem?
  intro k
  have hl : (sg x).length = x.length := rfl
  by_cases hk : k < x.length
  · rw [List.getElem?_map, List.getElem?_range hk, List.getElem?_reverse (by omega), hl]
    show some (x.cps.getD (x.length - 1 - k) 0) = _
    have h3 : x.length - 1 - k < x.cps.size := by show _ < x.length; omega
    simp only [sg, Array.getElem?_toList]
    rw [Array.getElem?_eq_getElem h3]
    simp [Array.getD, h3]
  · rw [List.getElem?_eq_none (by simp; omega), List.getElem?_eq_none (by simp; omega)]
theorem pe_revS {X : Cx} {e : Expr} {te : TE} {k : Nat} {p1 p2 p3 pos : Pos} (he : PE X e te) : PE X (.Subscript e (.Slice none none (some (.UnaryOp .USub (.Constant (.int 1) k p1) p2)) p3) pos) (tRevS te) := by
  refine ⟨fun pins s σ H Q I h => ?_⟩
  refine Subscript_ (thn (he.run pins s σ H _ I h) fun v s1 ⟨x, H1, I1, r1, q1⟩ => ?_)
  obtain ⟨z, ex, hz, q⟩ := q1
  subst ex
  obtain ⟨t, rfl⟩ := r1
  have hst : PO X (some (.UnaryOp .USub (.Constant (.int 1) k p1) p2)) (tPart (tUn (rU fun i => .int (-i)) (tC (.int 1)))) := po_some (pe_un un_neg pe_int)
  refine wpAny_Slice (thn (po_none.run pins s1 σ H1 (fun o H2 => o = none ∧ H2 = H1) I1 ⟨rfl, rfl⟩) fun vl s2 ⟨l, H2, I2, pl, el, e2⟩ => ?_)
  subst el e2
  refine thn (po_none.run pins s2 σ H2 (fun o H3 => o = none ∧ H3 = H2) I2 ⟨rfl, rfl⟩) fun vu s3 ⟨u, H3, I3, pu, eu, e3⟩ => ?_
  subst eu e3
  refine thn (hst.run pins s3 σ H3 (fun o H4 => o = some (-1) ∧ H4 = H3) I3 ⟨1, rfl, -1, rfl, rfl, rfl⟩) fun vs s4 ⟨o, H4, I4, ps, eo, e4⟩ => ?_
  subst eo e4
  obtain ⟨l, rfl, el⟩ := IsPart.raw pl
  obtain ⟨u, rfl, eu⟩ := IsPart.raw pu
  obtain ⟨st, rfl, est⟩ := IsPart.raw ps
  have el' : l = none := by cases l with | none => rfl | some _ => cases el
  have eu' : u = none := by cases u with | none => rfl | some _ => cases eu
  obtain ⟨tk, est'⟩ : ∃ tk, st = some (-1, tk) := by
    cases st with
    | none => cases est
    | some p => obtain ⟨i, tk⟩ := p; cases est; exact ⟨tk, rfl⟩
  subst el' eu' est'
  have I5 : Inv X pins σ H4 { s4 with heap := s4.heap.push { cls := .type "slice", data := .fields #[partValue none, partValue none, partValue (some (-1, tk))] } } := I4.kept (t' := s4.toks) fun b ob q => Heap.get?_push_of_some _ q
  show wpAny (model X.prog X.w) X.A (subscriptTail e (.Slice none none (some (.UnaryOp .USub (.Constant (.int 1) k p1) p2)) p3) (.str z t) (.ref s4.heap.objs.size)) (EP X pins σ Q) X.xe { s4 with heap := s4.heap.push { cls := .type "slice", data := .fields #[partValue none, partValue none, partValue (some (-1, tk))] } }
  refine tail_any (ops := [.str z t, .ref s4.heap.objs.size]) (typeIs_str _ z t) F.slot_str_getitem.lookup ?_ (by with_unfolding_all rfl)
  refine wpAny_getItem_str_slice (l := none) (u := none) (st := some (-1, tk)) ⟨_, Heap.get?_push_size _ rfl, rfl, rfl⟩ rfl ?_
  unfold sliceMade
  rw [if_neg (by
    have : ((((some ((-1 : Int), tk)).map (·.1)).getD 1 == 1)) = false := rfl
    rw [this]; simp)]
  have e : (⟨((slicePicked z none none (some (-1, tk))).filterMap (z.cps[·]?)).toArray⟩ : Str) = tx (sg z).reverse := by
    show Str.mk _ = Str.mk _
    exact congrArg Str.mk (rev_by z tk)
  rw [e]
  refine ⟨?_, .str _, H4, I5.tok _, ⟨_, rfl⟩, q⟩
  rw [len_tx, List.length_reverse]
  exact hz
section
variable {ι : Type} {X : ι → Cx} {K : PySem.W.Frag} {E : Ent} {B : Hp} {Γ Γ' : Slots} {R R' R1 R2' R3 : List Res} {a b c e o : Expr} {es : List Expr} {pos p' : Pos} {s s1 s2 s3 : Sl}
  {P : Program} {w : World} {mg : Str → Option Value} {base : Heap} {A : Around} {N : List Str} {rest sts : List Stmt} {D : Ends} {S S' H H' : Hp} {σ σ' : L2.St} {f : Str} {ps : List Str} {i j : Int} {x y : Str}
theorem ev_revS {k1 : Nat} {q1 q2 p2 : Pos} (he : EvJ X K E Γ R e R1 (dS x)) (hz : x.length ≤ sizeLine) : EvJ X K E Γ R (.Subscript e (.Slice none none (some (.UnaryOp .USub (.Constant (.int 1) k1 q1) q2)) p2) pos) R1 (dS (tx (sg x).reverse)) := by
  obtain ⟨t, a1, a2⟩ := he
  refine ⟨tRevS t, fun n => pe_revS (a1 n), fun S σ H Q q k => a2 S σ H _ q fun v S1 H1 e1 q1 r1 => ?_⟩
  cases (show v = .str x from r1)
  exact ⟨x, rfl, hz, k _ S1 H1 e1 q1 rfl⟩
theorem find_sign {x : Str} {n : Nat} (h : n ∈ x.cps.toList) : ∃ i rest, Builtin.Str.occurrences x ⟨#[n]⟩ 0 x.length 1 = i :: rest ∧ Txt.find x ⟨#[n]⟩ = (i : Int) := by
  have := PySem.StrLaws.found_one x n
  rw [decide_eq_true h] at this
  cases e : Builtin.Str.occurrences x ⟨#[n]⟩ 0 x.length 1 with
  | nil => rw [e] at this; cases this
  | cons i rest =>
    refine ⟨i, rest, rfl, ?_⟩
    unfold Txt.find
    rw [e]
/-- s.index(sign), where it is found -/
theorem ev_index (F : Fam X P w K mg base A N) {apos : Pos} {n : Nat} (ho : EvJ X K E Γ R o R (dS x)) (ha : EvJ X K E Γ R e R (dS ⟨#[n]⟩)) (hn : n ∈ x.cps.toList)
    (hbase : ∀ i, attributeBase o "index" (X i).env (eval o (X i).env) = eval o (X i).env := by exact fun _ => rfl)
    (hfew : ∀ i, ((backTo pos (starEach [e] (X i).env)).all (fun x => !x.1) && (backToKw pos (keywordEach [] (X i).env)).all (fun x => x.1.isSome) && decide ([e].length + ([] : List Keyword).length + (if ([] : List Keyword).isEmpty then 0 else 1) < 30)) = true := by exact fun _ => rfl)
    (hline : (apos.endLine == pos.line) = true := by rfl) (hst : ∀ i, starEach [e] (X i).env = (false, eval e (X i).env) :: starEach [] (X i).env := by exact fun _ => rfl) (hplain : ∀ i, (backTo pos (starEach [] (X i).env)).any (·.1) = false := by exact fun _ => rfl) :
    EvJ X K E Γ R (.Call (.Attribute o "index" apos) [e] [] pos) R (dI (Txt.find x ⟨#[n]⟩)) := by
  obtain ⟨i, rest, h1, h2⟩ := find_sign hn
  refine ev_mt F PySem.F.plainAttrs_str PySem.F.slot_str_index PySem.F.type_str_index ho (ar_cons ha ar_nil hst) ⟨_, fun n => mt_sindex, fun Γ S σ H v q r => by cases (show v = .str x from r); rfl, fun Γ S σ H v xs Q q r1 r2 k' => ?_⟩ hbase hfew hline hst hplain
  obtain ⟨u, rfl, r3⟩ := all2_one r2
  cases (show v = .str x from r1)
  cases (show u = .str ⟨#[n]⟩ from r3)
  exact ⟨x, _, i, rest, rfl, rfl, h1, k' _ S H (Same.refl _) q (by rw [h2]; rfl)⟩
theorem ixN_in {n : Nat} {j : Int} (h0 : 0 ≤ j) (h1 : j < n) : ixN n j = some j.toNat := by
  unfold ixN
  rw [if_pos h0, if_pos (by omega)]
/-- xs[i] = v, xs one's own -/
theorem blk_setItem (F : Fam X P w K mg base A N) (k : Nat) {p : Addr} {ds : List PyData} {d : PyData} {p2 : Pos} {value i : Expr} (hv : EvJ X K E Γ R value R1 s) (ho : EvJ X K E Γ R1 o R1 (sv (.ref p))) (hi : EvJ X K E Γ R1 i R1 (dI j)) (hd : ∀ K S v, s.r K S v → Da K S v d) (hk : R1[k]? = some (rL p ds)) (h0 : 0 ≤ j) (h1 : j < ds.length)
    (hr' : Blk X K E B Γ (R1.set k (rL p (ds.set j.toNat d))) rest D) (hs : ∀ m, swapsWithSole [.Subscript o i p2] value pos.line (X m).env = pure false := by exact fun _ => rfl) (hw : ∀ m, swappedStores [.Subscript o i p2] value (X m).env = pure none := by exact fun _ => rfl)
    (hh : ∀ m, (assignEach [.Subscript o i p2] (X m).env).map (·.2) = [assign (.Subscript o i p2) (X m).env] := by exact fun _ => rfl)
    (ha : ∀ m v, assign (.Subscript o i p2) (X m).env v = (do
      let ov ← holding [v] (eval o (X m).env)
      let iv ← holding [v, ov] (eval i (X m).env)
      standAt p2
      holding [v, ov, iv] (setItem ov iv v)
      release [v, ov, iv] []) := by exact fun _ _ => rfl) :
    Blk X K E B Γ R (.Assign [.Subscript o i p2] value pos :: rest) D := by
  obtain ⟨tv, v1, v2⟩ := hv
  obtain ⟨to, o1, o2⟩ := ho
  obtain ⟨ti, i1, i2⟩ := hi
  obtain ⟨u, g1, g2⟩ := hr'
  refine ⟨tSeq (tAsg tv (gSub to ti rSetL)) u, fun m => pss_cons (ps_asg (v1 m) (pg_sub (o1 m) (i1 m) set_list (ha m)) (hs m) (hw m) (hh m)) (g1 m), fun S σ H b q => ?_⟩
  refine v2 S σ H _ q fun v S1 H1 e1 q1 r1 => o2 S1 σ H1 _ q1 fun vo S2 H2 e2 q2 r2 => i2 S2 σ H2 _ q2 fun vi S3 H3 e3 q3 r3 => ?_
  cases (show vo = .ref p from r2)
  cases (show vi = .int j from r3)
  obtain ⟨vs, c1, c2⟩ := q3.cellL k hk
  have hl := daAll_len c2
  exact ⟨p, vs, j, j.toNat, rfl, rfl, c1, ixN_in h0 (by omega), g2 S3 σ _ (b.trans ((e1.trans e2).trans e3)) (q3.putL k hk (daAll_set (hd K S3 v (s.mono (e2.trans e3) r1)) _ c2))⟩
end
end SL

/-! loops and ifs with something chosen -/
namespace SL
open PySem PySem.Spec PyProof.Rows L2
section
variable {ι : Type} {X : ι → Cx} {K : PySem.W.Frag} {E : Ent} {B : Hp} {Γ Γ' : Slots} {R R' R1 R2' R3 : List Res} {a b c e o : Expr} {es : List Expr} {pos p' : Pos} {s s1 s2 s3 : Sl}
  {P : Program} {w : World} {mg : Str → Option Value} {base : Heap} {A : Around} {N : List Str} {rest sts : List Stmt} {D : Ends} {S S' H H' : Hp} {σ σ' : L2.St} {f : Str} {ps : List Str} {i j : Int} {x y : Str}
def PstX (K : PySem.W.Frag) (E : Ent) (B : Hp) {γ : Type} (I : γ → Prop) (G : γ → Slots) (RR : γ → List Res) : L2.St → Hp → Prop := fun σ H => ∃ g, I g ∧ Pst K E B (G g) (RR g) σ H
theorem blk_endX {γ : Type} {I : γ → Prop} {G : γ → Slots} {RR : γ → List Res} (hD : D.nx = PstX K E B I G RR) (g : γ) (hw : ∀ S σ H, SR K E Γ R S σ H → SR K E (G g) (RR g) S σ H) (hI : I g) : Blk X K E B Γ R [] D :=
  blk_nil fun S σ H b q => by rw [hD]; exact ⟨g, hI, S, b, hw S σ H q⟩
theorem blk_forX {α γ : Type} {tg iter : Expr} {bd : List Stmt} {C : List Res → Prop} {us : List Nat} {xs : List α} {it : α → Sl} {up : α → Slots → Slots} (I : List α → γ → Prop) (G : List α → γ → Slots) (RR : List α → γ → List Res)
    (F : Fam X P w K mg base A N) (hp : ∀ i, PassesOwn (model (X i).prog (X i).w) (X i).A (X i).env (X i).xe) (hi : ItJ X K E Γ R tg iter R1 (xs.map it) C) (htg : TgA X K E tg it up us)
    (g0 : γ) (hI0 : I [] g0) (h0 : ∀ S σ H, SR K E Γ R1 S σ H → SR K E (G [] g0) (RR [] g0) S σ H) (hC : ∀ pre g, I pre g → C (RR pre g))
    (hb : ∀ pre x post g B' (Z : L2.St → Hp → Prop), xs = pre ++ x :: post → I pre g → Blk X K E B' (up x (G pre g)) (RR pre g) bd { nx := PstX K E B' (I (pre ++ [x])) (G (pre ++ [x])) (RR (pre ++ [x])), rt := D.rt, bk := Z, ct := PstX K E B' (I (pre ++ [x])) (G (pre ++ [x])) (RR (pre ++ [x])) })
    (hr : ∀ g, I xs g → Blk X K E B (G xs g) (RR xs g) rest D) (hs : ∀ i x, foldedSetIterable iter (X i).env x = pure x := by exact fun _ _ => rfl) (hcm : ∀ i, (X i).calm = true := by exact fun _ => rfl) : Blk X K E B Γ R (.For tg iter bd [] pos :: rest) D := by
  obtain ⟨wi, w1, w2⟩ := hi
  obtain ⟨tt, t1, t2⟩ := htg
  have hr' := fun (n : { g : γ // I xs g }) => Classical.choose_spec (hr n.1 n.2)
  have hb' := fun (n : { q : List α × α × List α × γ × Hp × (L2.St → Hp → Prop) // xs = q.1 ++ q.2.1 :: q.2.2.1 ∧ I q.1 q.2.2.2.1 }) => Classical.choose_spec (hb n.1.1 n.1.2.1 n.1.2.2.1 n.1.2.2.2.1 n.1.2.2.2.2.1 n.1.2.2.2.2.2 n.2.1 n.2.2)
  refine ⟨tSeq (tFor wi tt _) _, fun i => pss_cons (ps_for (hp i) (hcm i) (w1 i) (t1 i) (pss_any fun n => (hb' n).1 i) (hs i)) (pss_any fun n => (hr' n).1 i), fun S σ H b q => ?_⟩
  refine w2 S σ H _ q fun J S1 H1 e1 q1 hJ => ?_
  refine ⟨fun n m σ H => m = xs.length - n ∧ n ≤ xs.length ∧ ∃ g S', I (xs.take n) g ∧ Same S1 S' ∧ SR K E (G (xs.take n) g) (RR (xs.take n) g) S' σ H, ⟨xs.length, by simp, Nat.zero_le _, g0, S1, hI0, Same.refl _, h0 S1 σ H1 q1⟩, ?_⟩
  rintro n m σ2 H2 ⟨rfl, hn, g, S2, hIg, e2, q2⟩
  obtain ⟨g1, g2⟩ := hJ n _ _ S2 σ2 H2 e2 q2 (hC _ _ hIg)
  by_cases hlt : n < xs.length
  · have hx : xs[n]? = some xs[n] := List.getElem?_eq_getElem hlt
    have hsplit : xs = xs.take n ++ xs[n] :: xs.drop (n + 1) := by rw [← List.drop_eq_getElem_cons hlt, List.take_append_drop]
    have htake : xs.take (n + 1) = xs.take n ++ [xs[n]] := by rw [List.take_succ, hx]; rfl
    obtain ⟨go, hy⟩ := g1 (it xs[n]) (by rw [List.getElem?_map, hx]; rfl)
    refine .inr ⟨go, PstX K E S2 (I (xs.take n ++ [xs[n]])) (G (xs.take n ++ [xs[n]])) (RR (xs.take n ++ [xs[n]])), fun σ' H' ⟨g', hI', S', e', q'⟩ => ⟨xs.length - (n + 1), by omega, rfl, hlt, g', S', by rw [htake]; exact hI', e2.trans e', by rw [htake]; exact q'⟩, fun x H' hx' => ?_⟩
    obtain ⟨S3, e3, q3, r3⟩ := hy x H' hx'
    refine t2 xs[n] _ _ S3 σ2 H' x _ q3 r3 fun σ4 q4 _ _ => ?_
    exact ⟨⟨(xs.take n, xs[n], xs.drop (n + 1), g, S2, _), hsplit, hIg⟩, (hb' ⟨(xs.take n, xs[n], xs.drop (n + 1), g, S2, _), hsplit, hIg⟩).2 S3 σ4 H' e3 q4⟩
  · have e : n = xs.length := by omega
    subst e
    rw [List.take_length] at q2 hIg
    exact .inl ⟨g2 (by rw [List.length_map]; exact Nat.le_refl _), ⟨⟨g, hIg⟩, (hr' ⟨g, hIg⟩).2 S2 σ2 H2 (b.trans (e1.trans e2)) q2⟩⟩
theorem blk_ifX {γ : Type} (I : γ → Prop) (G : γ → Slots) (RR : γ → List Res) {bd be : List Stmt} {k : Bool} (hc : TeJ X K E Γ R c k) (ha : k = true → Blk X K E B Γ R bd { nx := PstX K E B I G RR, rt := D.rt, bk := D.bk, ct := D.ct })
    (hb : k = false → Blk X K E B Γ R be { nx := PstX K E B I G RR, rt := D.rt, bk := D.bk, ct := D.ct }) (hr : ∀ g, I g → Blk X K E B (G g) (RR g) rest D) : Blk X K E B Γ R (.If c bd be pos :: rest) D := by
  obtain ⟨tc, c1, c2⟩ := hc
  have hr' := fun (n : { g : γ // I g }) => Classical.choose_spec (hr n.1 n.2)
  cases k with
  | true =>
    obtain ⟨t, h1, h2⟩ := ha rfl
    exact ⟨Evl.tCut (tIfS tc t (fun _ _ _ => False)) _, fun i => Evl.pss_cut (ps_if (c1 i) (h1 i) pss_of_never) (pss_any fun n => (hr' n).1 i), fun S σ H b q => ⟨PstX K E B I G RR, c2 S σ H _ q fun S1 H1 e1 q1 => iteT (h2 S1 σ H1 (b.trans e1) q1), fun σ' H' ⟨g, hg, S2, e2, q2⟩ => ⟨⟨g, hg⟩, (hr' ⟨g, hg⟩).2 S2 σ' H' e2 q2⟩⟩⟩
  | false =>
    obtain ⟨t, h1, h2⟩ := hb rfl
    exact ⟨Evl.tCut (tIfS tc (fun _ _ _ => False) t) _, fun i => Evl.pss_cut (ps_if (c1 i) pss_of_never (h1 i)) (pss_any fun n => (hr' n).1 i), fun S σ H b q => ⟨PstX K E B I G RR, c2 S σ H _ q fun S1 H1 e1 q1 => iteF (h2 S1 σ H1 (b.trans e1) q1), fun σ' H' ⟨g, hg, S2, e2, q2⟩ => ⟨⟨g, hg⟩, (hr' ⟨g, hg⟩).2 S2 σ' H' e2 q2⟩⟩⟩
/-- weaker, with things let go -/
theorem wkD {R2 : List Res} (hR : R = R' ++ R2) (h : All2 WkS Γ' Γ) : ∀ S σ H, SR K E Γ R S σ H → SR K E Γ' R' S σ H := by
  subst hR
  exact fun S σ H q => wkG h S σ H (SR.drop q)
/-- xs * k -/
theorem daAll_rep {vs : List V} {ds : List PyData} (h : DaAll K S vs ds) : ∀ n : Nat, DaAll K S (List.replicate n vs).flatten (List.replicate n ds).flatten
  | 0 => .nil
  | n + 1 => by rw [List.replicate_succ, List.replicate_succ, List.flatten_cons, List.flatten_cons]; exact daAll_app h (daAll_rep h n)
theorem bn_rep {ds : List PyData} (h1 : LV K R s1 ds) (h0 : 0 ≤ i) (h2 : i ≤ 1000000) (hz : ds.length * i.toNat ≤ 10000000) : BinRN X K E (binaryOp .Mult) R s1 (dI i) (fun p : Addr => R ++ [rL p (List.replicate i.toNat ds).flatten]) (fun p => sv (.ref p)) :=
  ⟨rRep, fun _ => op_rep, fun Γ S σ H x y Q q r1 r2 k => by
    obtain ⟨p, vs, rfl, g1, g2⟩ := h1 E Γ S σ H x q r1
    cases (show y = .int i from r2)
    have hl := daAll_len g2
    have : (sizeLine : Nat) = 16777216 := sizeLine_eq
    exact ⟨p, i, vs, rfl, rfl, g1, by omega, by omega, by rw [hl]; omega, fun l hl => k l _ S _ (Same.refl _) (q.mine hl ⟨_, rfl, daAll_rep g2 _⟩) rfl⟩⟩
theorem flat_one {α : Type} (n : Nat) (x : α) : (List.replicate n [x]).flatten = List.replicate n x := by
  induction n with
  | zero => rfl
  | succ n ih => rw [List.replicate_succ, List.flatten_cons, ih]; rfl
theorem sl_bools {ns : List Bool} : (ns.map PyData.bool).map sl = ns.map dB := by
  rw [List.map_map]
  rfl
theorem cutD_map {α β : Type} (f : α → β) (l : List α) (lo hi : Option Int) : cutD (l.map f) lo hi = (cutD l lo hi).map f := by
  unfold cutD
  rw [List.length_map, List.map_take, List.map_drop]
end
end SL

/-! calls to which lists of one's own are lent: the def reads them, what it hands back has no lists of theirs -/
namespace SL
open PySem PySem.Spec PyProof.Rows L2
/-- S'' is S but for lists -/
def ButL (S S'' : Hp) : Prop := ∀ a, S'' a = S a ∨ (S'' a = none ∧ ∃ xs, S a = some (.lst xs))
def Flat (s : Sl) : Prop := ∀ K S S'' v, ButL S S'' → s.r K S v → s.r K S'' v
def FlatR (ρ : Res) : Prop := ∀ K S S'' O, ButL S S'' → ρ.r K S O → ρ.r K S'' O
mutual
/-- data without lists -/
def fl : PyData → Bool
  | .list _ => false
  | .tuple xs => flA xs
  | .dict _ => false
  | _ => true
def flA : List PyData → Bool
  | [] => true
  | x :: xs => fl x && flA xs
end
theorem butL_rd {S S'' : Hp} {a : Addr} {xs : List V} (h : ButL S S'') (e : Rd S a (.tup xs)) : Rd S'' a (.tup xs) := by
  rcases e with e | ⟨o, e⟩
  · rcases h a with z | ⟨_, ys, z⟩
    · exact .inl (z.trans e)
    · rw [e] at z; cases z
  · rcases h a with z | ⟨_, ys, z⟩
    · exact .inr ⟨o, z.trans e⟩
    · rw [e] at z; cases z
theorem butL_t {K : PySem.W.Frag} {S S'' : Hp} {a : Addr} {xs : List V} (h : ButL S S'') (e : SqT K S a xs) : SqT K S'' a xs := by
  rcases e with e | e
  · exact .inl (butL_rd h e)
  · exact .inr e
mutual
theorem da_butL {K : PySem.W.Frag} {S S'' : Hp} (h : ButL S S'') : ∀ {v : V} {d : PyData}, fl d = true → Da K S v d → Da K S'' v d
  | _, _, _, .non => .non
  | _, _, _, .bl b => .bl b
  | _, _, _, .int i => .int i
  | _, _, _, .str x => .str x
  | _, _, e, .lst _ _ => nomatch e
  | _, _, e, .tup h1 r => .tup (butL_t h h1) (daAll_butL h (by rw [fl] at e; exact e) r)
theorem daAll_butL {K : PySem.W.Frag} {S S'' : Hp} (h : ButL S S'') : ∀ {vs : List V} {ds : List PyData}, flA ds = true → DaAll K S vs ds → DaAll K S'' vs ds
  | _, _, _, .nil => .nil
  | _, _, e, .cons h1 r => by
    rw [flA, Bool.and_eq_true] at e
    exact .cons (da_butL h e.1 h1) (daAll_butL h e.2 r)
end
theorem flat_v {v : V} : Flat (sv v) := fun _ _ _ _ _ h => h
theorem flat_d {d : PyData} (e : fl d = true) : Flat (sd d) := fun _ _ _ _ h r => da_butL h e r
theorem all2_flat {K : PySem.W.Frag} {S S'' : Hp} (h : ButL S S'') : ∀ {ss : List Sl} {vs : List V}, (∀ s ∈ ss, Flat s) → All2 (fun (s : Sl) v => s.r K S v) ss vs → All2 (fun (s : Sl) v => s.r K S'' v) ss vs
  | _, _, _, .nil => .nil
  | _, _, hf, .cons a t => .cons (hf _ (List.mem_cons_self ..) _ _ _ _ h a) (all2_flat h (fun s hs => hf s (List.mem_cons_of_mem _ hs)) t)
theorem flat_tup {ss : List Sl} (hf : ∀ s ∈ ss, Flat s) : Flat (stup ss) := fun K S S'' v h ⟨p, vs, e, h1, h2⟩ => ⟨p, vs, e, butL_t h h1, all2_flat h hf h2⟩
theorem flatA_nil : ∀ s ∈ ([] : List Sl), Flat s := fun _ h => nomatch h
theorem flatA_cons {s : Sl} {ss : List Sl} (h : Flat s) (r : ∀ t ∈ ss, Flat t) : ∀ t ∈ s :: ss, Flat t := fun t ht => (List.mem_cons.mp ht).elim (fun e => e ▸ h) (r t)
theorem flatR_l {p : Addr} {ds : List PyData} (e : flA ds = true) : FlatR (rL p ds) := fun K S S'' O h ⟨vs, h1, h2⟩ => ⟨vs, h1, daAll_butL h e h2⟩
theorem flA_map {α : Type} {f : α → PyData} (h : ∀ x, fl (f x) = true) : ∀ xs : List α, flA (xs.map f) = true
  | [] => rfl
  | x :: xs => by rw [List.map_cons, flA, h x, flA_map h xs]; rfl
/-- what is lent: s as it stands here, t as the def asks it -/
def LendA (R1 : List Res) (s t : Sl) : Prop := ∀ (K : PySem.W.Frag) (E : Ent) (Γ : Slots) (S S0 H : Hp) (σ : L2.St) (v : V), SR K E Γ R1 S σ H → Same S S0 → (∀ (k : Nat) (p : Addr) (ds : List PyData) (vs : List V), R1[k]? = some (rL p ds) → H p = some (.lst vs) → S0 p = some (.lst vs)) → s.r K S v → t.r K S0 v
theorem lend_id {R1 : List Res} {s : Sl} : LendA R1 s s := fun K E Γ S S0 H σ v q e h r => s.mono e r
theorem lend_o (k : Nat) {R1 : List Res} {p : Addr} {ds : List PyData} (hk : R1[k]? = some (rL p ds)) : LendA R1 (sv (.ref p)) (sd (.list ds)) := fun K E Γ S S0 H σ v q e h r => by
  cases (show v = .ref p from r)
  obtain ⟨vs, h1, h2⟩ := q.cellL k hk
  exact .lst (h k p ds vs hk h1) (daAll_same e h2)
section
variable {ι : Type} {X : ι → Cx} {K : PySem.W.Frag} {E : Ent} {B : Hp} {Γ Γ' : Slots} {R R' R1 R2' R3 : List Res} {a b c e : Expr} {es : List Expr} {pos p' : Pos} {s s1 s2 s3 : Sl}
  {P : Program} {w : World} {mg : Str → Option Value} {base : Heap} {A : Around} {N : List Str} {rest sts : List Stmt} {D : Ends} {S S' H H' : Hp} {σ σ' : L2.St} {f : Str} {ps : List Str}
theorem ev_callL {θ : Type} {ν : θ → Type} {pre : θ → Prop} {as : θ → List Sl} {Rn : ∀ i, ν i → List Res} {res : ∀ i, ν i → Sl} {ss : List Sl} (F : Fam X P w K mg base A N) (C : Cal P w K mg base A f ps (spJ K pre as (fun _ => []) Rn res)) (i : θ) (ha : ArJ X K E Γ R (e :: es) R1 ss) (hl : All2 (LendA R1) ss (as i)) (hpre : pre i)
    (hf : ∀ n, Flat (res i n)) (hfR : ∀ n, ∀ ρ ∈ Rn i n, FlatR ρ)
    (hg : ∀ i, Gl (X i) f := by exact fun _ => rfl) (he : ∀ i, starEach (e :: es) (X i).env = (false, eval e (X i).env) :: starEach es (X i).env := by exact fun _ => rfl) (hpl : ∀ i, (backTo pos (starEach es (X i).env)).any (·.1) = false := by exact fun _ => rfl) (hdb : (f == ("__debug__" : Str)) = false := by decide) :
    EvN X K E Γ R (.Call (.Name f p') (e :: es) [] pos) (fun n => R1 ++ Rn i n) (res i) := by
  obtain ⟨CX, k, fa, fd, hF, hr, hm, hk, hb, hx⟩ := C.ex
  obtain ⟨t, a1, a2⟩ := ha
  refine ⟨tCall (spJ K pre as (fun _ => []) Rn res) [] E0 t, fun j => ?_, fun S σ H Q q kk => a2 S σ H _ q fun vs S1 H1 e1 q1 r1 => ?_⟩
  · refine pe_call (CX := CX) (k := k) (f := fa) (fd := fd) (ps := ps) (ds := []) ?_ (by rw [F.fA j]; exact hr) (hg j) (by rw [F.fmg j]; exact hm) (by rw [F.fK j]; exact hk) (by rw [F.fK j]; exact hb) .nil (hx _ (F.fP j) (F.fw j)) (a1 j) hdb (he j) (hpl j)
    rw [F.fP j, F.fw j, F.fK j, F.fmg j, F.fbase j]
    exact hF
  · rw [List.append_nil]
    obtain ⟨Os, ⟨b1, b2⟩, b3⟩ := id q1.own
    -- the lasting part with the lists that are lent
    let S0 : Hp := fun x => match S1 x with
      | some u => some u
      | none => match H1 x with
        | some (.lst xs) => if ∃ O ∈ Os, O x ≠ none then some (.lst xs) else none
        | _ => none
    have s0_old : ∀ x u, S1 x = some u → S0 x = some u := fun x u h => by show (match S1 x with | some u => some u | none => _) = _; rw [h]
    have s0_new : ∀ x u, S0 x = some u → S1 x = none → ∃ xs, u = .lst xs ∧ H1 x = some (.lst xs) ∧ ∃ O ∈ Os, O x ≠ none := fun x u h hn => by
      have h' : (match S1 x with | some u => some u | none => match H1 x with | some (.lst xs) => if ∃ O ∈ Os, O x ≠ none then some (HO.lst xs) else none | _ => none) = some u := h
      rw [hn] at h'
      dsimp only at h'
      split at h'
      · rename_i xs hx
        split at h'
        · rename_i hO
          cases h'
          exact ⟨xs, rfl, hx, hO⟩
        · cases h'
      · cases h'
    have s0_H : Same S0 H1 := fun x u h => by
      cases h1 : S1 x with
      | some u' => rw [s0_old x u' h1] at h; cases h; exact q1.sub x u h1
      | none => obtain ⟨xs, e, h2, _⟩ := s0_new x u h h1; rw [e]; exact h2
    have s0_lend : ∀ (k : Nat) (p : Addr) (ds : List PyData) (us : List V), R1[k]? = some (rL p ds) → H1 p = some (.lst us) → S0 p = some (.lst us) := fun k p ds us hk hp => by
      obtain ⟨O, e2, ⟨ws, eO, _⟩, c2, c3⟩ := b1.get hk
      have hOp : O p ≠ none := by rw [eO, hOne_same]; exact fun z => nomatch z
      show (match S1 p with | some u => some u | none => match H1 p with | some (.lst xs) => if ∃ O ∈ Os, O p ≠ none then some (HO.lst xs) else none | _ => none) = some (.lst us)
      rw [c3 p hOp, hp]
      dsimp only
      rw [if_pos ⟨O, List.mem_of_getElem? e2, hOp⟩]
    have r0 : All2 (fun (s : Sl) v => s.r K S0 v) (as i) vs := by
      have : ∀ {ss ts : List Sl} {vs : List V}, All2 (LendA R1) ss ts → All2 (fun (s : Sl) v => s.r K S1 v) ss vs → All2 (fun (s : Sl) v => s.r K S0 v) ts vs := by
        intro ss ts vs h1
        induction h1 generalizing vs with
        | nil => intro h2; cases h2; exact .nil
        | cons p t ih =>
          intro h2
          cases h2 with
          | cons x y => exact .cons (p K E Γ S1 S0 H1 σ _ q1 (fun a u => s0_old a u) s0_lend x) (ih y)
      exact this hl r1
    refine ⟨i, S0, [], hpre, s0_H, r0, ⟨.nil, .nil⟩, fun n v S' H' Os' hfr hsub hext hnew hown hO hres => ?_⟩
    have none_of : ∀ x, ¬ InOs [] x := fun x ⟨O, hO, _⟩ => by simp at hO
    -- what lasts behind the call: without the lists that were lent
    let S2 : Hp := fun x => if S0 x ≠ none ∧ S1 x = none then none else S' x
    have s2_lent : ∀ x, S0 x ≠ none → S1 x = none → S2 x = none := fun x h1 h2 => if_pos ⟨h1, h2⟩
    have s2_else : ∀ x, ¬ (S0 x ≠ none ∧ S1 x = none) → S2 x = S' x := fun x h => if_neg h
    have s2_sub : ∀ x u, S2 x = some u → S' x = some u := fun x u h => by
      by_cases hc : S0 x ≠ none ∧ S1 x = none
      · rw [s2_lent x hc.1 hc.2] at h; cases h
      · rw [s2_else x hc] at h; exact h
    have e12 : Same S1 S2 := fun x u h => by
      rw [s2_else x (fun z => by rw [h] at z; exact nomatch z.2)]
      exact hext x u (s0_old x u h)
    have but : ButL S' S2 := fun x => by
      by_cases hc : S0 x ≠ none ∧ S1 x = none
      · cases h0 : S0 x with
        | none => exact absurd h0 hc.1
        | some u =>
          obtain ⟨xs, e, _⟩ := s0_new x u h0 hc.2
          subst e
          exact .inr ⟨s2_lent x hc.1 hc.2, xs, hext x _ h0⟩
      · exact .inl (s2_else x hc)
    refine kk n v S2 H' (e1.trans e12) ?_ (hf n _ _ _ _ but hres)
    have dis : ∀ (O : Hp), O ∈ Os → Same O H1 → (∀ x, O x ≠ none → S1 x = none) → ∀ x, O x ≠ none → S2 x = none := fun O hOm hO hS x hx' => by
      cases e2 : S2 x with
      | none => rfl
      | some u =>
        have e3 := s2_sub x u e2
        rcases hnew x (by rw [e3]; exact fun z => nomatch z) with z | z | z
        · rw [s2_lent x z (hS x hx')] at e2; cases e2
        · cases e3 : O x with
          | none => exact absurd e3 hx'
          | some u' => rw [hO x u' e3] at z; cases z
        · exact absurd z (none_of x)
    have b1m : ∀ O ∈ Os, ∃ ρ : Res, ρ.r K S1 O ∧ Same O H1 ∧ ∀ a, O a ≠ none → S1 a = none := fun O hO => let ⟨ρ, _, h⟩ := all2_mem b1 hO; ⟨ρ, h⟩
    have b1' : All2 (fun (ρ : Res) O => ρ.r K S2 O ∧ Same O H' ∧ ∀ a, O a ≠ none → S2 a = none) R1 Os := by
      have : ∀ {Rs : List Res} {Us : List Hp}, (∀ O ∈ Us, O ∈ Os) → All2 (fun (ρ : Res) O => ρ.r K S1 O ∧ Same O H1 ∧ ∀ a, O a ≠ none → S1 a = none) Rs Us → All2 (fun (ρ : Res) O => ρ.r K S2 O ∧ Same O H' ∧ ∀ a, O a ≠ none → S2 a = none) Rs Us := by
        intro Rs Us hm h
        induction h with
        | nil => exact .nil
        | cons hh t ih => exact .cons ⟨Res.mono _ e12 hh.1, fun x u e => hfr x u (hh.2.1 x u e) (none_of x), dis _ (hm _ (List.mem_cons_self ..)) hh.2.1 hh.2.2⟩ (ih fun O hO => hm O (List.mem_cons_of_mem _ hO))
      exact this (fun O hO => hO) b1
    have hown' : All2 (fun (ρ : Res) O => ρ.r K S2 O ∧ Same O H' ∧ ∀ a, O a ≠ none → S2 a = none) (Rn i n) Os' := by
      have : ∀ {Rs : List Res} {Us : List Hp}, (∀ ρ ∈ Rs, FlatR ρ) → All2 (fun (ρ : Res) O => ρ.r K S' O ∧ Same O H' ∧ ∀ a, O a ≠ none → S' a = none) Rs Us → All2 (fun (ρ : Res) O => ρ.r K S2 O ∧ Same O H' ∧ ∀ a, O a ≠ none → S2 a = none) Rs Us := by
        intro Rs Us hm h
        induction h with
        | nil => exact .nil
        | cons hh t ih =>
          refine .cons ⟨hm _ (List.mem_cons_self ..) _ _ _ _ but hh.1, hh.2.1, fun x hx' => ?_⟩ (ih fun ρ hρ => hm ρ (List.mem_cons_of_mem _ hρ))
          cases e2 : S2 x with
          | none => rfl
          | some u => have := s2_sub x u e2; rw [hh.2.2 x hx'] at this; cases this
      exact this (hfR n) hown.all
    refine ⟨fun x u h => hsub x u (s2_sub x u h), q1.ext.trans e12, fun x u e n => hfr x u (q1.fr x u e n) (none_of x), fun x hx' => ?_, ⟨Os ++ Os', ⟨b1'.app hown', ?_⟩, fun O hO' x hx' => ?_⟩, slots_mono e12 q1.slots⟩
    · cases e2 : S2 x with
      | none => exact absurd e2 hx'
      | some u =>
        have e3 := s2_sub x u e2
        rcases hnew x (by rw [e3]; exact fun z => nomatch z) with z | z | z
        · by_cases hc : S1 x = none
          · rw [s2_lent x z hc] at e2; cases e2
          · exact q1.new x hc
        · by_cases n : E.A0 x
          · exact .inr (.inr n)
          · cases e0 : E.H0 x with
            | none => exact .inr (.inl rfl)
            | some u => rw [q1.fr x u e0 n] at z; cases z
        · exact absurd z (none_of x)
    · refine List.pairwise_append.mpr ⟨b2, hown.dis, fun O hO1 O' hO2 x hx' => ?_⟩
      cases e2 : O' x with
      | none => rfl
      | some u =>
        rcases hO O' hO2 x (by rw [e2]; exact fun z => nomatch z) with z | z
        · exact absurd z (none_of x)
        · obtain ⟨ρ, hh⟩ := b1m O hO1
          cases e3 : O x with
          | none => exact absurd e3 hx'
          | some u' => rw [hh.2.1 x u' e3] at z; cases z
    · rcases List.mem_append.mp hO' with z | z
      · exact b3 O z x hx'
      · rcases hO O z x hx' with z | z
        · exact absurd z (none_of x)
        · by_cases n : E.A0 x
          · exact .inl n
          · cases e0 : E.H0 x with
            | none => exact .inr rfl
            | some u => rw [q1.fr x u e0 n] at z; cases z
theorem ev_lend1 (F : Fam X P w K mg base A N) {α : Type} {pre : α → Prop} {d1 : α → Sl} {res : α → Sl} {ss : List Sl} {x1 : α} (C : Cal P w K mg base A f ps (sp1 K pre d1 res)) (ha : ArJ X K E Γ R (e :: es) R1 ss) (hl : All2 (LendA R1) ss [d1 x1]) (hpre : pre x1) (hf : Flat (res x1)) (hg : ∀ i, Gl (X i) f := by exact fun _ => rfl) (he : ∀ i, starEach (e :: es) (X i).env = (false, eval e (X i).env) :: starEach es (X i).env := by exact fun _ => rfl) (hpl : ∀ i, (backTo pos (starEach es (X i).env)).any (·.1) = false := by exact fun _ => rfl) (hdb : (f == ("__debug__" : Str)) = false := by decide) :
    EvJ X K E Γ R (.Call (.Name f p') (e :: es) [] pos) R1 (res x1) := by
  have := ev_of_unit (ev_callL (p' := p') F C x1 ha hl hpre (fun _ => hf) (fun _ ρ h => nomatch h) hg he hpl hdb)
  rw [List.append_nil] at this
  exact this
theorem el_lend1 (F : Fam X P w K mg base A N) {α : Type} {pre : α → Prop} {d1 : α → Sl} {res : α → List PyData} {ss : List Sl} {x1 : α} (C : Cal P w K mg base A f ps (spL1 K pre d1 res)) (ha : ArJ X K E Γ R (e :: es) R1 ss) (hl : All2 (LendA R1) ss [d1 x1]) (hpre : pre x1) (hf : flA (res x1) = true) (hg : ∀ i, Gl (X i) f := by exact fun _ => rfl) (he : ∀ i, starEach (e :: es) (X i).env = (false, eval e (X i).env) :: starEach es (X i).env := by exact fun _ => rfl) (hpl : ∀ i, (backTo pos (starEach es (X i).env)).any (·.1) = false := by exact fun _ => rfl) (hdb : (f == ("__debug__" : Str)) = false := by decide) :
    EvL X K E Γ R (.Call (.Name f p') (e :: es) [] pos) R1 (res x1) :=
  ev_callL (p' := p') F C x1 ha hl hpre (fun _ => flat_v) (fun p ρ h => by rw [List.mem_singleton.mp h]; exact flatR_l hf) hg he hpl hdb
theorem ev_lend2 (F : Fam X P w K mg base A N) {α β : Type} {pre : α → β → Prop} {d1 : α → Sl} {d2 : β → Sl} {res : α → β → Sl} {ss : List Sl} {x1 : α} {x2 : β} (C : Cal P w K mg base A f ps (sp2 K pre d1 d2 res)) (ha : ArJ X K E Γ R (e :: es) R1 ss) (hl : All2 (LendA R1) ss [d1 x1, d2 x2]) (hpre : pre x1 x2) (hf : Flat (res x1 x2)) (hg : ∀ i, Gl (X i) f := by exact fun _ => rfl) (he : ∀ i, starEach (e :: es) (X i).env = (false, eval e (X i).env) :: starEach es (X i).env := by exact fun _ => rfl) (hpl : ∀ i, (backTo pos (starEach es (X i).env)).any (·.1) = false := by exact fun _ => rfl) (hdb : (f == ("__debug__" : Str)) = false := by decide) :
    EvJ X K E Γ R (.Call (.Name f p') (e :: es) [] pos) R1 (res x1 x2) := by
  have := ev_of_unit (ev_callL (p' := p') F C (x1, x2) ha hl hpre (fun _ => hf) (fun _ ρ h => nomatch h) hg he hpl hdb)
  rw [List.append_nil] at this
  exact this
theorem el_lend2 (F : Fam X P w K mg base A N) {α β : Type} {pre : α → β → Prop} {d1 : α → Sl} {d2 : β → Sl} {res : α → β → List PyData} {ss : List Sl} {x1 : α} {x2 : β} (C : Cal P w K mg base A f ps (spL2 K pre d1 d2 res)) (ha : ArJ X K E Γ R (e :: es) R1 ss) (hl : All2 (LendA R1) ss [d1 x1, d2 x2]) (hpre : pre x1 x2) (hf : flA (res x1 x2) = true) (hg : ∀ i, Gl (X i) f := by exact fun _ => rfl) (he : ∀ i, starEach (e :: es) (X i).env = (false, eval e (X i).env) :: starEach es (X i).env := by exact fun _ => rfl) (hpl : ∀ i, (backTo pos (starEach es (X i).env)).any (·.1) = false := by exact fun _ => rfl) (hdb : (f == ("__debug__" : Str)) = false := by decide) :
    EvL X K E Γ R (.Call (.Name f p') (e :: es) [] pos) R1 (res x1 x2) :=
  ev_callL (p' := p') F C (x1, x2) ha hl hpre (fun _ => flat_v) (fun p ρ h => by rw [List.mem_singleton.mp h]; exact flatR_l hf) hg he hpl hdb
theorem ev_lend3 (F : Fam X P w K mg base A N) {α β γ : Type} {pre : α → β → γ → Prop} {d1 : α → Sl} {d2 : β → Sl} {d3 : γ → Sl} {res : α → β → γ → Sl} {ss : List Sl} {x1 : α} {x2 : β} {x3 : γ} (C : Cal P w K mg base A f ps (sp3 K pre d1 d2 d3 res)) (ha : ArJ X K E Γ R (e :: es) R1 ss) (hl : All2 (LendA R1) ss [d1 x1, d2 x2, d3 x3]) (hpre : pre x1 x2 x3) (hf : Flat (res x1 x2 x3)) (hg : ∀ i, Gl (X i) f := by exact fun _ => rfl) (he : ∀ i, starEach (e :: es) (X i).env = (false, eval e (X i).env) :: starEach es (X i).env := by exact fun _ => rfl) (hpl : ∀ i, (backTo pos (starEach es (X i).env)).any (·.1) = false := by exact fun _ => rfl) (hdb : (f == ("__debug__" : Str)) = false := by decide) :
    EvJ X K E Γ R (.Call (.Name f p') (e :: es) [] pos) R1 (res x1 x2 x3) := by
  have := ev_of_unit (ev_callL (p' := p') F C (x1, x2, x3) ha hl hpre (fun _ => hf) (fun _ ρ h => nomatch h) hg he hpl hdb)
  rw [List.append_nil] at this
  exact this
theorem el_lend3 (F : Fam X P w K mg base A N) {α β γ : Type} {pre : α → β → γ → Prop} {d1 : α → Sl} {d2 : β → Sl} {d3 : γ → Sl} {res : α → β → γ → List PyData} {ss : List Sl} {x1 : α} {x2 : β} {x3 : γ} (C : Cal P w K mg base A f ps (spL3 K pre d1 d2 d3 res)) (ha : ArJ X K E Γ R (e :: es) R1 ss) (hl : All2 (LendA R1) ss [d1 x1, d2 x2, d3 x3]) (hpre : pre x1 x2 x3) (hf : flA (res x1 x2 x3) = true) (hg : ∀ i, Gl (X i) f := by exact fun _ => rfl) (he : ∀ i, starEach (e :: es) (X i).env = (false, eval e (X i).env) :: starEach es (X i).env := by exact fun _ => rfl) (hpl : ∀ i, (backTo pos (starEach es (X i).env)).any (·.1) = false := by exact fun _ => rfl) (hdb : (f == ("__debug__" : Str)) = false := by decide) :
    EvL X K E Γ R (.Call (.Name f p') (e :: es) [] pos) R1 (res x1 x2 x3) :=
  ev_callL (p' := p') F C (x1, x2, x3) ha hl hpre (fun _ => flat_v) (fun p ρ h => by rw [List.mem_singleton.mp h]; exact flatR_l hf) hg he hpl hdb
theorem ev_lend4 (F : Fam X P w K mg base A N) {α β γ δ : Type} {pre : α → β → γ → δ → Prop} {d1 : α → Sl} {d2 : β → Sl} {d3 : γ → Sl} {d4 : δ → Sl} {res : α → β → γ → δ → Sl} {ss : List Sl} {x1 : α} {x2 : β} {x3 : γ} {x4 : δ} (C : Cal P w K mg base A f ps (sp4 K pre d1 d2 d3 d4 res)) (ha : ArJ X K E Γ R (e :: es) R1 ss) (hl : All2 (LendA R1) ss [d1 x1, d2 x2, d3 x3, d4 x4]) (hpre : pre x1 x2 x3 x4) (hf : Flat (res x1 x2 x3 x4)) (hg : ∀ i, Gl (X i) f := by exact fun _ => rfl) (he : ∀ i, starEach (e :: es) (X i).env = (false, eval e (X i).env) :: starEach es (X i).env := by exact fun _ => rfl) (hpl : ∀ i, (backTo pos (starEach es (X i).env)).any (·.1) = false := by exact fun _ => rfl) (hdb : (f == ("__debug__" : Str)) = false := by decide) :
    EvJ X K E Γ R (.Call (.Name f p') (e :: es) [] pos) R1 (res x1 x2 x3 x4) := by
  have := ev_of_unit (ev_callL (p' := p') F C (x1, x2, x3, x4) ha hl hpre (fun _ => hf) (fun _ ρ h => nomatch h) hg he hpl hdb)
  rw [List.append_nil] at this
  exact this
theorem el_lend4 (F : Fam X P w K mg base A N) {α β γ δ : Type} {pre : α → β → γ → δ → Prop} {d1 : α → Sl} {d2 : β → Sl} {d3 : γ → Sl} {d4 : δ → Sl} {res : α → β → γ → δ → List PyData} {ss : List Sl} {x1 : α} {x2 : β} {x3 : γ} {x4 : δ} (C : Cal P w K mg base A f ps (spL4 K pre d1 d2 d3 d4 res)) (ha : ArJ X K E Γ R (e :: es) R1 ss) (hl : All2 (LendA R1) ss [d1 x1, d2 x2, d3 x3, d4 x4]) (hpre : pre x1 x2 x3 x4) (hf : flA (res x1 x2 x3 x4) = true) (hg : ∀ i, Gl (X i) f := by exact fun _ => rfl) (he : ∀ i, starEach (e :: es) (X i).env = (false, eval e (X i).env) :: starEach es (X i).env := by exact fun _ => rfl) (hpl : ∀ i, (backTo pos (starEach es (X i).env)).any (·.1) = false := by exact fun _ => rfl) (hdb : (f == ("__debug__" : Str)) = false := by decide) :
    EvL X K E Γ R (.Call (.Name f p') (e :: es) [] pos) R1 (res x1 x2 x3 x4) :=
  ev_callL (p' := p') F C (x1, x2, x3, x4) ha hl hpre (fun _ => flat_v) (fun p ρ h => by rw [List.mem_singleton.mp h]; exact flatR_l hf) hg he hpl hdb
theorem ev_lend5 (F : Fam X P w K mg base A N) {α β γ δ ε : Type} {pre : α → β → γ → δ → ε → Prop} {d1 : α → Sl} {d2 : β → Sl} {d3 : γ → Sl} {d4 : δ → Sl} {d5 : ε → Sl} {res : α → β → γ → δ → ε → Sl} {ss : List Sl} {x1 : α} {x2 : β} {x3 : γ} {x4 : δ} {x5 : ε} (C : Cal P w K mg base A f ps (sp5 K pre d1 d2 d3 d4 d5 res)) (ha : ArJ X K E Γ R (e :: es) R1 ss) (hl : All2 (LendA R1) ss [d1 x1, d2 x2, d3 x3, d4 x4, d5 x5]) (hpre : pre x1 x2 x3 x4 x5) (hf : Flat (res x1 x2 x3 x4 x5)) (hg : ∀ i, Gl (X i) f := by exact fun _ => rfl) (he : ∀ i, starEach (e :: es) (X i).env = (false, eval e (X i).env) :: starEach es (X i).env := by exact fun _ => rfl) (hpl : ∀ i, (backTo pos (starEach es (X i).env)).any (·.1) = false := by exact fun _ => rfl) (hdb : (f == ("__debug__" : Str)) = false := by decide) :
    EvJ X K E Γ R (.Call (.Name f p') (e :: es) [] pos) R1 (res x1 x2 x3 x4 x5) := by
  have := ev_of_unit (ev_callL (p' := p') F C (x1, x2, x3, x4, x5) ha hl hpre (fun _ => hf) (fun _ ρ h => nomatch h) hg he hpl hdb)
  rw [List.append_nil] at this
  exact this
end
end SL

/-! chained comparisons; numbers that texts write -/
namespace SL
open PySem PySem.Spec PyProof.Rows L2
section
variable {ι : Type} {X : ι → Cx} {K : PySem.W.Frag} {E : Ent} {B : Hp} {Γ Γ' : Slots} {R R' R1 R2' R3 : List Res} {a b c e o : Expr} {es : List Expr} {pos p' : Pos} {s s1 s2 s3 : Sl}
  {P : Program} {w : World} {mg : Str → Option Value} {base : Heap} {A : Around} {N : List Str} {rest sts : List Stmt} {D : Ends} {S S' H H' : Hp} {σ σ' : L2.St} {f : Str} {ps : List Str} {i j : Int} {x y : Str}
theorem te_chain {op op' : CmpOp} {k j : Bool} (ha : EvJ X K E Γ R a R s1) (hb : EvJ X K E Γ R b R s2) (hc : EvJ X K E Γ R c R s3) (ho : BinR X K E (compareOp op) R s1 s2 (sv (.bl k))) (ho' : BinR X K E (compareOp op') R s2 s3 (sv (.bl j)))
    (hm : lastMarks [op, op'] [b, c] = false := by with_unfolding_all rfl) : TeJ X K E Γ R (.Compare a [op, op'] [b, c] pos) (k && j) := by
  obtain ⟨ta, a1, a2⟩ := ha
  obtain ⟨tb, b1, b2⟩ := hb
  obtain ⟨tc, c1, c2⟩ := hc
  obtain ⟨r, o1, o2⟩ := ho
  obtain ⟨r', o1', o2'⟩ := ho'
  refine ⟨tTest (tChain r r' ta tb tc), fun i => pt_chain (o1 i) (o1' i) (a1 i) (b1 i) (c1 i) hm, fun S σ H Q q k' => ?_⟩
  refine a2 S σ H _ q fun x S1 H1 e1 q1 r1 => b2 S1 σ H1 _ q1 fun y S2 H2 e2 q2 r2 => ?_
  refine o2 Γ S2 σ H2 x y _ q2 (s1.mono e2 r1) r2 fun v S3 H3 e3 q3 r3 => ⟨k, r3, ?_⟩
  cases k with
  | false =>
    rw [if_neg Bool.false_ne_true]
    exact ⟨false, rfl, k' S3 H3 ((e1.trans e2).trans e3) q3⟩
  | true =>
    rw [if_pos rfl]
    refine c2 S3 σ H3 _ q3 fun z S4 H4 e4 q4 r4 => o2' Γ S4 σ H4 y z _ q4 (s2.mono (e3.trans e4) r2) r4 fun v S5 H5 e5 q5 r5 => ⟨j, r5, ?_⟩
    exact k' S5 H5 ((((e1.trans e2).trans e3).trans e4).trans e5) q5
theorem te_is {k k' : Bool} (h : TeJ X K E Γ R e k) (hk : k = k') : TeJ X K E Γ R e k' := hk ▸ h
theorem blk_unpackN {ν : Type} {tg : Expr} {Rn : ν → List Res} {sn : ν → Sl} {up : ν → Unit → Slots → Slots} {us : List Nat} (F : Fam X P w K mg base A N) (he : EvN X K E Γ R e Rn sn) (ht : ∀ n, TgA X K E tg (fun _ : Unit => sn n) (up n) us) (hr : ∀ n, Blk X K E B (up n () Γ) (Rn n) rest D)
    (hs : ∀ i, swapsWithSole [tg] e pos.line (X i).env = pure false := by exact fun _ => rfl) (hw : ∀ i, swappedStores [tg] e (X i).env = pure none := by exact fun _ => rfl) (h1 : ∀ i, (assignEach [tg] (X i).env).map (·.2) = [assign tg (X i).env] := by exact fun _ => rfl) :
    Blk X K E B Γ R (.Assign [tg] e pos :: rest) D := by
  obtain ⟨t, a1, a2⟩ := he
  have ht' := fun n => Classical.choose_spec (ht n)
  have hr' := fun n => Classical.choose_spec (hr n)
  have hg : ∀ i, PG (X i) tg (fun v σ H Q => ∃ n, Classical.choose (ht n) v σ H Q) := fun i => ⟨fun pins s σ H v u Q I r ⟨n, h⟩ => ((ht' n).1 i).run pins s σ H v u Q I r h⟩
  refine ⟨tSeq (tAsg t (fun v σ H Q => ∃ n, Classical.choose (ht n) v σ H Q)) _, fun i => pss_cons (ps_asg (a1 i) (hg i) (hs i) (hw i) (h1 i)) (pss_any fun n => (hr' n).1 i), fun S σ H b q => a2 S σ H _ q fun n v S1 H1 e1 q1 r1 => ⟨n, (ht' n).2 () Γ (Rn n) S1 σ H1 v _ q1 r1 fun σ' q' _ _ => ⟨n, (hr' n).2 S1 σ' H1 (b.trans e1) q'⟩⟩⟩
end
def oV : Option Int → V
  | none => .non
  | some n => .int n
abbrev dO (o : Option Int) : Sl := sv (oV o)
abbrev FIG : Str := "0123456789"
theorem fig_in {c : Nat} (h : c ∈ FIG.cps.toList) : 48 ≤ c ∧ c ≤ 57 ∧ Txt.find FIG ⟨#[c]⟩ = ((c - 48 : Nat) : Int) := by
  have hd : FIG.cps.toList = [48, 49, 50, 51, 52, 53, 54, 55, 56, 57] := by decide +kernel
  rw [hd] at h
  simp only [List.mem_cons, List.not_mem_nil, or_false] at h
  rcases h with h | h | h | h | h | h | h | h | h | h <;> subst h <;> exact ⟨by decide, by decide, by decide +kernel⟩
def valD : List Nat → Int → Int := fun l a => l.foldl (fun acc c => 10 * acc + Txt.find FIG ⟨#[c]⟩) a
theorem valD_is : ∀ (l : List Nat) (n : Nat), (∀ c ∈ l, c ∈ FIG.cps.toList) → valD l n = ((l.foldl (fun acc c => acc * 10 + (c - 48)) n : Nat) : Int)
  | [], n, _ => rfl
  | c :: l, n, h => by
    have h1 := fig_in (h c (List.mem_cons_self ..))
    show valD l (10 * (n : Int) + Txt.find FIG ⟨#[c]⟩) = _
    rw [h1.2.2, show 10 * (n : Int) + ((c - 48 : Nat) : Int) = ((n * 10 + (c - 48) : Nat) : Int) by omega, valD_is l _ fun d hd => h d (List.mem_cons_of_mem _ hd)]
    rfl
theorem int_of_digits {x : Str} (h : ∀ c ∈ x.cps.toList, c ∈ FIG.cps.toList) (h0 : 0 < x.length) (h1 : x.length ≤ 640) : PySem.intText? x = some (valD x.cps.toList 0) := by
  have e := valD_is x.cps.toList 0 h
  rw [PySem.intText_digits (fun c hc => ⟨(fig_in (h c hc)).1, (fig_in (h c hc)).2.1⟩) (fun z => by rw [len_sg] at h0; rw [show sg x = [] from z] at h0; exact absurd h0 (by decide)) (by omega)]
  exact congrArg some e.symm
theorem str_len {n k : Nat} (hk : 0 < k) (h : n < 10 ^ k) : (Str.ofString (toString ((n : Nat) : Int))).length ≤ k := by
  rw [len_sg]
  show (TL.tl _).length ≤ k
  rw [TL.tl_num]
  exact TL.numL_len hk h
end SL

/-! sorted, insert, extend, in lists -/
namespace SL
open PySem PySem.Spec PyProof.Rows L2
/-! sorted(xs) of data -/
theorem each_all2 {xs : List V} {ds : List PyData} {us : List Value} {h : Heap} (D : V → PyData → Prop) (hD : ∀ x d v, D x d → RelV x v → ∃ as, Reads h v d as) (h1 : All2 D xs ds) (h2 : Vals xs us) :
    PySem.W.EachIs (fun v d => ∃ x, RelV x v ∧ D x d) us ds ∧ PySem.W.EachIs (fun v d => ∃ as, Reads h v d as) us ds := by
  induction h1 generalizing us with
  | nil => cases h2; exact ⟨.nil, .nil⟩
  | cons p t ih =>
    cases h2 with
    | cons r rs =>
      obtain ⟨i1, i2⟩ := ih rs
      exact ⟨.cons ⟨_, r, p⟩ i1, .cons (hD _ _ _ p r) i2⟩
theorem each_back {D : V → PyData → Prop} : ∀ {us : List Value} {ds : List PyData}, PySem.W.EachIs (fun v d => ∃ x, RelV x v ∧ D x d) us ds → ∃ xs, Vals xs us ∧ All2 D xs ds
  | _, _, .nil => ⟨[], .nil, .nil⟩
  | _, _, .cons ⟨x, r, p⟩ t => by
    obtain ⟨xs, h1, h2⟩ := each_back t
    exact ⟨x :: xs, .cons r h1, .cons p h2⟩
def rSrt (K : PySem.W.Frag) : List V → Hp → VK → Prop := fun vs H Q => ∃ (a : Addr) (xs : List V) (ds : List PyData) (D : V → PyData → Prop), vs = [.ref a] ∧ SqL K H a xs ∧ All2 D xs ds ∧ (∀ x d, D x d → Dp K H x d) ∧ PySem.W.AllAlike ds ∧ PySem.W.Sortable ds ∧ ds.length ≤ 1000000 ∧ (∀ d ∈ ds, d.depth ≤ 32) ∧
  ∀ ys p, All2 D ys (ds.mergeSort (PySem.W.dataLe false fun d => d)) → H p = none → Q (.ref p) (upd H p (.lst ys))
theorem cr_srt {X : Cx} (hu : X.A.units + 64 < cLine) : CallR X (.builtin "sorted") (rSrt X.K) := by
  intro pins s σ H vs us Q I r h
  obtain ⟨a, xs, ds, D, rfl, hs, hx, hD, hal, hk, hz, hd, q⟩ := h
  obtain ⟨its, rv, hl, hlen⟩ := I.list hs
  obtain ⟨u, rfl, ru⟩ := vals1 r
  obtain rfl : u = Value.ref a := ru
  obtain ⟨e1, e2⟩ := each_all2 (us := its) (h := s.heap) D (fun x d v p rx => Dp.reads I d x v (hD x d p) rx) hx rv
  have hsl : (sizeLine : Nat) = 16777216 := sizeLine_eq
  refine PySem.W.sorted_data (bs := ds) (enc := fun d => d) hl.isList e1 e2 (by rw [List.map_id']; exact hal) (by rw [List.map_id']; exact hk) (by omega) (fun d hd' => by have := hd d hd'; omega) fun out ho he => ?_
  obtain ⟨ys, h1, h2⟩ := each_back he
  obtain ⟨c, hc⟩ := PyProof.Rows.sortedAll_at s.heap its out.toArray
  have hyl : ys.length = xs.length := by
    have g1 := h2.len
    have g2 := hx.len
    have g3 := List.length_mergeSort (le := PySem.W.dataLe false fun d : PyData => d) ds
    omega
  have hfresh : H (s.heap.objs.size + 1) = none := I.hok.fresh (Nat.le_succ _)
  refine ⟨.ref (s.heap.objs.size + 1), upd H (s.heap.objs.size + 1) (.lst ys), I.laid (t' := s.toks) (fun b o e => PyProof.Rows.sortedAll_old e) (Nat.le_succ _) ⟨?_, out, c, h1, hc⟩, rfl, q ys _ h2 hfresh⟩
  rw [hyl]
  exact hlen
section
variable {ι : Type} {X : ι → Cx} {K : PySem.W.Frag} {E : Ent} {B : Hp} {Γ Γ' : Slots} {R R' R1 R2' R3 : List Res} {a b c e o : Expr} {es : List Expr} {pos p' : Pos} {s s1 s2 s3 : Sl}
  {P : Program} {w : World} {mg : Str → Option Value} {base : Heap} {A : Around} {N : List Str} {rest sts : List Stmt} {D : Ends} {S S' H H' : Hp} {σ σ' : L2.St} {f : Str} {ps : List Str} {i j : Int} {x y : Str}
theorem daAll_all2 : ∀ {vs : List V} {ds : List PyData}, DaAll K S vs ds → All2 (fun v d => Da K S v d) vs ds
  | _, _, .nil => .nil
  | _, _, .cons h r => .cons h (daAll_all2 r)
theorem all2_daAll : ∀ {vs : List V} {ds : List PyData}, All2 (fun v d => Da K S v d) vs ds → DaAll K S vs ds
  | _, _, .nil => .nil
  | _, _, .cons h r => .cons h (all2_daAll r)
def srt (ds : List PyData) : List PyData := ds.mergeSort (PySem.W.dataLe false fun d => d)
theorem cl_sorted {k : Nat} (F : Fam X P w K mg base A N) (hr : Room k A) {ds : List PyData} (h : LV K R s1 ds) (hal : PySem.W.AllAlike ds) (hk : PySem.W.Sortable ds) (hz : ds.length ≤ 1000000) (hd : ∀ d ∈ ds, d.depth ≤ 32) : ClN X K E (.builtin "sorted") R [s1] (fun p : Addr => R ++ [rL p (srt ds)]) (fun p => sv (.ref p)) :=
  ⟨rSrt K, fun n => by rw [← F.fK n]; exact cr_srt (by rw [F.fA n]; exact hr.units), fun Γ S σ H vs Q q r k => by
    obtain ⟨v, rfl, r1⟩ := all2_one r
    obtain ⟨p, us, rfl, h1, h2⟩ := h E Γ S σ H v q r1
    exact ⟨p, us, ds, fun v d => Da K S v d, rfl, SqL.of h1, daAll_all2 h2, fun x d hxd => da_dp (da_same q.sub hxd), hal, hk, hz, hd, fun ys l hys hl => k l _ S _ (Same.refl _) (q.mine hl ⟨ys, rfl, all2_daAll hys⟩) rfl⟩⟩
/-! xs.insert(i, v), xs.extend(ys), ones own -/
theorem ev_insert (F : Fam X P w K mg base A N) (k : Nat) {p : Addr} {ds : List PyData} {d : PyData} {apos : Pos} (ho : EvJ X K E Γ R o R (sv (.ref p))) (ha : EvJ X K E Γ R e R (dI i)) (hb : EvJ X K E Γ R b R s2) (hd : ∀ K S v, s2.r K S v → Da K S v d) (hk : R[k]? = some (rL p ds)) (h0 : 0 ≤ i) (h1 : i < 1000000) (hz : ds.length < 10000000)
    (hbase : ∀ i, attributeBase o "insert" (X i).env (eval o (X i).env) = eval o (X i).env := by exact fun _ => rfl)
    (hfew : ∀ i, ((backTo pos (starEach [e, b] (X i).env)).all (fun x => !x.1) && (backToKw pos (keywordEach [] (X i).env)).all (fun x => x.1.isSome) && decide ([e, b].length + ([] : List Keyword).length + (if ([] : List Keyword).isEmpty then 0 else 1) < 30)) = true := by exact fun _ => rfl)
    (hline : (apos.endLine == pos.line) = true := by rfl) (hs : ∀ i, starEach [e, b] (X i).env = (false, eval e (X i).env) :: starEach [b] (X i).env := by exact fun _ => rfl) (hs' : ∀ i, starEach [b] (X i).env = (false, eval b (X i).env) :: starEach [] (X i).env := by exact fun _ => rfl) (hplain : ∀ i, (backTo pos (starEach [b] (X i).env)).any (·.1) = false := by exact fun _ => rfl) :
    EvJ X K E Γ R (.Call (.Attribute o "insert" apos) [e, b] [] pos) (R.set k (rL p (ds.take i.toNat ++ [d] ++ ds.drop i.toNat))) dN := by
  refine ev_mt F PySem.F.plainAttrs_list PySem.F.slot_list_insert PySem.F.type_list_insert ho (ar_cons ha (ar_cons hb ar_nil hs') hs) ⟨_, fun _ => mt_insert, fun Γ S σ H x q r => tyL (lv_o k hk) q r, fun Γ S σ H x xs Q q r1 r2 k' => ?_⟩ hbase hfew hline hs hplain
  obtain ⟨v, z, rfl, r3, r4⟩ : ∃ v z, xs = [v, z] ∧ (dI i).r K S v ∧ s2.r K S z := by
    cases r2 with
    | cons a b =>
      cases b with
      | cons c d =>
        cases d
        exact ⟨_, _, rfl, a, c⟩
  cases (show x = .ref p from r1)
  cases (show v = .int i from r3)
  obtain ⟨vs, c1, c2⟩ := q.cellL k hk
  have hl := daAll_len c2
  have : (sizeLine : Nat) = 16777216 := sizeLine_eq
  exact ⟨p, vs, i, z, rfl, rfl, c1, by omega, h0, by omega, k' _ S _ (Same.refl _) (q.putL k hk (daAll_app (daAll_app (daAll_take _ c2) (.cons (hd K S z r4) .nil)) (daAll_drop _ c2))) rfl⟩
theorem ev_extend (F : Fam X P w K mg base A N) (k : Nat) {p : Addr} {ds es' : List PyData} {apos : Pos} (ho : EvJ X K E Γ R o R (sv (.ref p))) (ha : EvJ X K E Γ R e R s2) (hl : LV K R s2 es') (hk : R[k]? = some (rL p ds)) (hz : ds.length + es'.length < 10000000)
    (hbase : ∀ i, attributeBase o "extend" (X i).env (eval o (X i).env) = eval o (X i).env := by exact fun _ => rfl)
    (hfew : ∀ i, ((backTo pos (starEach [e] (X i).env)).all (fun x => !x.1) && (backToKw pos (keywordEach [] (X i).env)).all (fun x => x.1.isSome) && decide ([e].length + ([] : List Keyword).length + (if ([] : List Keyword).isEmpty then 0 else 1) < 30)) = true := by exact fun _ => rfl)
    (hline : (apos.endLine == pos.line) = true := by rfl) (hs : ∀ i, starEach [e] (X i).env = (false, eval e (X i).env) :: starEach [] (X i).env := by exact fun _ => rfl) (hplain : ∀ i, (backTo pos (starEach [] (X i).env)).any (·.1) = false := by exact fun _ => rfl) :
    EvJ X K E Γ R (.Call (.Attribute o "extend" apos) [e] [] pos) (R.set k (rL p (ds ++ es'))) dN := by
  refine ev_mt F PySem.F.plainAttrs_list PySem.F.slot_list_extend PySem.F.type_list_extend ho (ar_cons ha ar_nil hs) ⟨rExtend, fun _ => mt_extend, fun Γ S σ H x q r => tyL (lv_o k hk) q r, fun Γ S σ H x xs Q q r1 r2 k' => ?_⟩ hbase hfew hline hs hplain
  obtain ⟨v, rfl, r3⟩ := all2_one r2
  cases (show x = .ref p from r1)
  obtain ⟨vs, c1, c2⟩ := q.cellL k hk
  obtain ⟨p2, us, rfl, g1, g2⟩ := hl E Γ S σ H v q r3
  have l1 := daAll_len c2
  have l2 := daAll_len g2
  have : (sizeLine : Nat) = 16777216 := sizeLine_eq
  exact ⟨p, p2, vs, us, rfl, rfl, c1, g1, by omega, k' _ S _ (Same.refl _) (q.putL k hk (daAll_app c2 g2)) rfl⟩
/-! x in a list of texts -/
theorem inV_strs (ns : List Str) : inV (.str x) (ns.map V.str) = decide (x ∈ ns) := by
  unfold inV
  rw [List.any_map, Bool.eq_iff_iff, List.any_eq_true, decide_eq_true_eq]
  constructor
  · rintro ⟨y, hy, h⟩
    have : y = x := eq_of_beq h
    rw [← this]; exact hy
  · intro h
    exact ⟨x, h, beq_self_eq_true x⟩
theorem br_inL (F : Fam X P w K mg base A N) {ds : List PyData} (h : LV K R s2 ds) (ha : ds.all isS = true) : BinR X K E (compareOp .In) R (dS x) s2 (dB (decide (x ∈ ds.map dstr))) :=
  ⟨rIn K false, fun n => by rw [← F.fK n]; exact op_in_seq, fun Γ S σ H u y Q q r1 r2 k => by
    cases (show u = .str x from r1)
    obtain ⟨p, vs, rfl, h1, h2⟩ := h E Γ S σ H y q r2
    rw [da_strs ha h2] at h1
    exact ⟨p, _, rfl, .inl (SqL.of h1), rfl, List.all_eq_true.mpr fun z hz => by obtain ⟨t, _, rfl⟩ := List.mem_map.mp hz; rfl, k _ S H (Same.refl _) q (by rw [← inV_strs]; rfl)⟩⟩
theorem br_ninL (F : Fam X P w K mg base A N) {ds : List PyData} (h : LV K R s2 ds) (ha : ds.all isS = true) : BinR X K E (compareOp .NotIn) R (dS x) s2 (dB (!decide (x ∈ ds.map dstr))) :=
  ⟨rIn K true, fun n => by rw [← F.fK n]; exact op_notIn_seq, fun Γ S σ H u y Q q r1 r2 k => by
    cases (show u = .str x from r1)
    obtain ⟨p, vs, rfl, h1, h2⟩ := h E Γ S σ H y q r2
    rw [da_strs ha h2] at h1
    exact ⟨p, _, rfl, .inl (SqL.of h1), rfl, List.all_eq_true.mpr fun z hz => by obtain ⟨t, _, rfl⟩ := List.mem_map.mp hz; rfl, k _ S H (Same.refl _) q (by rw [← inV_strs]; rfl)⟩⟩
theorem tup_IS {α : Type} {g : α → Int} {h : α → Str} : ∀ (y : α) S v, (sd (.tuple [.int (g y), .str (h y)])).r K S v → (stup [dI (g y), dS (h y)]).r K S v := fun y S v r => tup_sl r
theorem tup_SI {α : Type} {g : α → Str} {h : α → Int} : ∀ (y : α) S v, (sd (.tuple [.str (g y), .int (h y)])).r K S v → (stup [dS (g y), dI (h y)]).r K S v := fun y S v r => tup_sl r
end
/-- pairs of a number and a text as data -/
def mkD (m : Int × Str) : PyData := .tuple [.int m.1, .str m.2]
def svD (m : Str × Int) : PyData := .tuple [.str m.1, .int m.2]
theorem dep_mkD {k : Nat} {m : Int × Str} : dep (k + 1) (mkD m) := dep_tup (depA_cons dep_int (depA_cons dep_str depA_nil))
theorem dep_svD {k : Nat} {m : Str × Int} : dep (k + 1) (svD m) := dep_tup (depA_cons dep_str (depA_cons dep_int depA_nil))
def leM (a b : Int × Str) : Bool := decide (a.1 < b.1) || (decide (a.1 = b.1) && decide (a.2.cps.toList ≤ b.2.cps.toList))
theorem alike_mk (ms : List (Int × Str)) : PySem.W.AllAlike (ms.map mkD) := PySem.W.AllAlike.of fun _ _ => rfl
theorem sortable_mk (ms : List (Int × Str)) : PySem.W.Sortable (ms.map mkD) := PySem.W.Sortable.tuples fun b => ⟨_, _, rfl⟩
theorem dep_mk {ms : List (Int × Str)} : ∀ d ∈ ms.map mkD, d.depth ≤ 32 := fun d hd => by
  obtain ⟨m, _, rfl⟩ := List.mem_map.mp hd
  exact (show dep (31 + 1) (mkD m) from dep_tup (depA_cons dep_int (depA_cons dep_str depA_nil)))
end SL

/-! names, spots, servers, marks: the plain side -/
namespace SL
open PySem PySem.Spec PyProof.Rows L2
abbrev LET : Str := "abcdefghijklmnopqrstuvwxyz"
abbrev ALN : Str := "abcdefghijklmnopqrstuvwxyz0123456789"
def stepS (t : Int) (c : Nat) : Int := (t * 69621 + Txt.find ALN ⟨#[c]⟩ + 1) % 2147483647
def spotA (x : Str) (turn size : Int) : Int := (x.cps.toList.foldl stepS (turn + 1)) * 48271 % 2147483647 % size
def nmOk (x : Str) : Prop := x.length ≤ 9 ∧ ∀ c ∈ x.cps.toList, c ∈ ALN.cps.toList
theorem let_aln : ∀ c ∈ LET.cps.toList, c ∈ ALN.cps.toList := by decide +kernel
theorem let2_aln : ∀ c ∈ (LET ++ LET).cps.toList, c ∈ ALN.cps.toList := by decide +kernel
theorem aln2_aln : ∀ c ∈ (ALN ++ ALN).cps.toList, c ∈ ALN.cps.toList := by decide +kernel
theorem let_len : LET.length = 26 := by decide +kernel
theorem let2_len : (LET ++ LET).length = 52 := by decide +kernel
theorem aln_len : ALN.length = 36 := by decide +kernel
theorem aln2_len : (ALN ++ ALN).length = 72 := by decide +kernel
theorem let_nd : LET.cps.toList.Nodup := by decide +kernel
theorem aln_nd : ALN.cps.toList.Nodup := by decide +kernel
theorem cutS_mem {x : Str} {lo hi : Option Int} {c : Nat} (h : c ∈ (cutS x lo hi).cps.toList) : c ∈ x.cps.toList := by
  have h2 : c ∈ cutD (sg x) lo hi := h
  exact List.mem_of_mem_drop (List.mem_of_mem_take h2)
theorem sign_of {x : Str} {n : Nat} (h : n < x.length) : x.cps.toList.getD n 0 ∈ x.cps.toList := getD_mem (by rw [Array.length_toList]; exact h)
theorem nd_map {α : Type} {f : Nat → α} {n : Nat} (h : ∀ i j, i < n → j < n → f i = f j → i = j) : ((List.range n).map f).Nodup := by
  rw [List.nodup_iff_pairwise_ne, List.pairwise_map]
  refine List.Pairwise.imp_of_mem ?_ (List.nodup_iff_pairwise_ne.mp List.nodup_range)
  intro a b ha hb hne e
  exact hne (h a b (List.mem_range.mp ha) (List.mem_range.mp hb) e)
theorem getD_inj {α : Type} {l : List α} {d : α} (h : l.Nodup) {i j : Nat} (hi : i < l.length) (hj : j < l.length) (e : l.getD i d = l.getD j d) : i = j := by
  rw [List.getD_eq_getElem?_getD, List.getD_eq_getElem?_getD, List.getElem?_eq_getElem hi, List.getElem?_eq_getElem hj] at e
  have e' : l[i] = l[j] := e
  rw [List.nodup_iff_pairwise_ne, List.pairwise_iff_getElem] at h
  rcases Nat.lt_trichotomy i j with q | q | q
  · exact absurd e' (h i j hi hj q)
  · exact q
  · exact absurd e'.symm (h j i hj hi q)
/-! marks -/
def marksOf (sv : List (Str × Int)) (size : Int) : List (Int × Str) := sv.flatMap fun p => (List.range p.2.toNat).map fun (t : Nat) => (spotA p.1 t size, p.1)
def marksA (sv : List (Str × Int)) (size : Int) : List (Int × Str) := (marksOf sv size).mergeSort leM
theorem dataLt_mk (a b : Int × Str) : PySem.W.dataLt (mkD a) (mkD b) = (decide (a.1 < b.1) || (decide (a.1 = b.1) && decide (a.2.cps.toList < b.2.cps.toList))) := by
  unfold mkD
  rw [PySem.W.dataLt_pair rfl rfl, PySem.W.dataLt_int, PySem.W.dataLt_str]
  simp only [PyData.eqv, beq_iff_eq]
  by_cases h1 : a.1 = b.1
  · rw [if_pos h1]
    by_cases h2 : a.2 = b.2
    · rw [if_pos h2, h1, h2]
      simp [List.lt_irrefl]
    · rw [if_neg h2, h1]
      simp
  · rw [if_neg h1]
    simp [h1]
theorem leM_eq (a b : Int × Str) : leM a b = PySem.W.dataLe false (fun d => d) (mkD a) (mkD b) := by
  rw [PySem.W.dataLe_eq]
  show _ = !PySem.W.dataLt (mkD b) (mkD a)
  rw [dataLt_mk]
  unfold leM
  have hl : decide (a.2.cps.toList ≤ b.2.cps.toList) = !decide (b.2.cps.toList < a.2.cps.toList) := by
    rw [Bool.eq_iff_iff]
    simp [List.not_lt]
  rw [hl]
  by_cases h1 : a.1 < b.1
  · have h2 : ¬ b.1 < a.1 := by omega
    have h3 : ¬ b.1 = a.1 := by omega
    simp [h1, h2, h3]
  · by_cases h2 : a.1 = b.1
    · simp [h2]
    · have h3 : b.1 < a.1 := by omega
      have h4 : ¬ b.1 = a.1 := by omega
      simp [h1, h2, h3]
theorem srt_mk (ms : List (Int × Str)) : srt (ms.map mkD) = (ms.mergeSort leM).map mkD := by
  unfold srt
  exact (PySem.W.sort_maps mkD fun a _ b _ => leM_eq a b).symm
theorem leM_trans (a b c : Int × Str) (h1 : leM a b = true) (h2 : leM b c = true) : leM a c = true := by
  unfold leM at *
  simp only [Bool.or_eq_true, Bool.and_eq_true, decide_eq_true_eq] at *
  rcases h1 with h1 | ⟨h1, h1'⟩ <;> rcases h2 with h2 | ⟨h2, h2'⟩
  · left; omega
  · left; omega
  · left; omega
  · right; exact ⟨by omega, List.le_trans h1' h2'⟩
theorem leM_total (a b : Int × Str) : (leM a b || leM b a) = true := by
  unfold leM
  simp only [Bool.or_eq_true, Bool.and_eq_true, decide_eq_true_eq]
  by_cases h : a.1 = b.1
  · rcases List.le_total a.2.cps.toList b.2.cps.toList with h2 | h2
    · exact .inl (.inr ⟨h, h2⟩)
    · exact .inr (.inr ⟨h.symm, h2⟩)
  · rcases Int.lt_or_gt_of_ne h with h2 | h2
    · exact .inl (.inl h2)
    · exact .inr (.inl h2)
theorem leM_anti {a b : Int × Str} (h1 : leM a b = true) (h2 : leM b a = true) : a = b := by
  unfold leM at *
  simp only [Bool.or_eq_true, Bool.and_eq_true, decide_eq_true_eq] at *
  have h3 : a.1 = b.1 := by omega
  rcases h1 with h1 | ⟨_, h1⟩
  · omega
  rcases h2 with h2 | ⟨_, h2⟩
  · omega
  have h4 : a.2.cps.toList = b.2.cps.toList := List.le_antisymm h1 h2
  exact Prod.ext h3 (sg_inj h4)
theorem sort_perm_eq {l m : List (Int × Str)} (h : l.Perm m) : l.mergeSort leM = m.mergeSort leM := by
  refine List.Perm.eq_of_pairwise (le := fun a b => leM a b = true) (fun a b _ _ h1 h2 => leM_anti h1 h2) (List.pairwise_mergeSort leM_trans leM_total l) (List.pairwise_mergeSort leM_trans leM_total m) ?_
  exact ((List.mergeSort_perm l leM).trans h).trans (List.mergeSort_perm m leM).symm
/-! rows -/
def addN (acc : List Str) (n : Str) : List Str := if n ∈ acc then acc else acc ++ [n]
def metA (ns : List Str) : List Str := ns.foldl addN []
def ringA (ms : List (Int × Str)) (spot : Int) : List (Int × Str) := (ms.filter fun m => decide (m.1 ≥ spot)) ++ ms.filter fun m => decide (m.1 < spot)
def rowA (ms : List (Int × Str)) (spot : Int) : List Str := metA ((ringA ms spot).map (·.2))
theorem metA_app (ns : List Str) (n : Str) : metA (ns ++ [n]) = addN (metA ns) n := by
  unfold metA
  rw [List.foldl_append]
  rfl
theorem metA_nodup (ns : List Str) : (metA ns).Nodup := by
  have : ∀ (ns acc : List Str), acc.Nodup → (ns.foldl addN acc).Nodup := by
    intro ns
    induction ns with
    | nil => exact fun _ h => h
    | cons n ns ih =>
      intro acc h
      refine ih _ ?_
      unfold addN
      split
      · exact h
      · rename_i hn
        exact List.nodup_append.mpr ⟨h, List.nodup_cons.mpr ⟨by simp, List.nodup_nil⟩, fun a ha b hb e => hn (by rw [← List.mem_singleton.mp hb, ← e]; exact ha)⟩
  exact this ns [] List.nodup_nil
theorem metA_len (ns : List Str) : (metA ns).length ≤ ns.length := by
  have : ∀ (ns acc : List Str), (ns.foldl addN acc).length ≤ acc.length + ns.length := by
    intro ns
    induction ns with
    | nil => intro acc; simp
    | cons n ns ih =>
      intro acc
      have h1 := ih (addN acc n)
      have h2 : (addN acc n).length ≤ acc.length + 1 := by unfold addN; split <;> simp
      simp only [List.foldl_cons, List.length_cons]
      omega
  have := this ns []
  simpa [metA] using this
theorem mem_metA {n : Str} (ns : List Str) : n ∈ metA ns ↔ n ∈ ns := by
  have : ∀ (ns acc : List Str), n ∈ ns.foldl addN acc ↔ n ∈ acc ∨ n ∈ ns := by
    intro ns
    induction ns with
    | nil => intro acc; simp
    | cons m ns ih =>
      intro acc
      rw [List.foldl_cons, ih]
      unfold addN
      split
      · rename_i hm
        constructor
        · rintro (h | h)
          · exact .inl h
          · exact .inr (List.mem_cons_of_mem _ h)
        · rintro (h | h)
          · exact .inl h
          · rcases List.mem_cons.mp h with e | h
            · exact .inl (e ▸ hm)
            · exact .inr h
      · rw [List.mem_append, List.mem_singleton, List.mem_cons]
        constructor
        · rintro ((h | h) | h)
          · exact .inl h
          · exact .inr (.inl h)
          · exact .inr (.inr h)
        · rintro (h | h | h)
          · exact .inl (.inl h)
          · exact .inl (.inr h)
          · exact .inr h
  have := this ns []
  simpa [metA] using this
/-- a dict of names all alike -/
def allT (ns : List Str) (c : Sl) : List (Str × Sl) := ns.map fun n => (n, c)
theorem lk_allT (ns : List Str) (c : Sl) (x : Str) : lk (allT ns c) x = if x ∈ ns then some c else none := by
  induction ns with
  | nil => rfl
  | cons n ns ih =>
    show lk ((n, c) :: allT ns c) x = _
    by_cases h : n = x
    · rw [lk_pos h, if_pos (by rw [h]; exact List.mem_cons_self ..)]
    · rw [lk_neg h, ih]
      simp [show ¬ x = n from fun e => h e.symm]
theorem pt_allT (ns : List Str) (c : Sl) (x : Str) : pt (allT ns c) x c = allT (addN ns x) c := by
  unfold addN
  by_cases h : x ∈ ns
  · rw [if_pos h]
    unfold pt
    rw [any_lk, lk_allT, if_pos h, if_pos (show (some c).isSome = true from rfl)]
    unfold allT
    rw [List.map_map]
    apply List.map_congr_left
    intro a _
    simp
  · rw [if_neg h, pt_new (by rw [lk_allT, if_neg h])]
    simp [allT]
theorem allT_keys (ns : List Str) (c : Sl) : ((allT ns c).map fun a => PyData.str a.1) = ns.map .str := by
  unfold allT
  rw [List.map_map]
  rfl
theorem sl_mk {ms : List (Int × Str)} : (ms.map mkD).map sl = ms.map fun m => sd (.tuple [.int m.1, .str m.2]) := by
  rw [List.map_map]
  rfl
theorem sl_sv {ms : List (Str × Int)} : (ms.map svD).map sl = ms.map fun m => sd (.tuple [.str m.1, .int m.2]) := by
  rw [List.map_map]
  rfl
end SL

/-! rows and marks without one -/
namespace SL
open PySem PySem.Spec PyProof.Rows L2
def svOk (sv : List (Str × Int)) : Prop := ∀ p ∈ sv, nmOk p.1 ∧ 1 ≤ p.2 ∧ p.2 ≤ 20
theorem marksOf_len {sv : List (Str × Int)} {size : Int} (h : svOk sv) : (marksOf sv size).length ≤ 20 * sv.length := by
  unfold marksOf
  induction sv with
  | nil => simp
  | cons p sv ih =>
    have h1 := ih fun q hq => h q (List.mem_cons_of_mem _ hq)
    have h2 := h p (List.mem_cons_self ..)
    simp only [List.flatMap_cons, List.length_append, List.length_map, List.length_range, List.length_cons]
    omega
theorem marksA_len {sv : List (Str × Int)} {size : Int} (h : svOk sv) : (marksA sv size).length ≤ 20 * sv.length := by
  unfold marksA
  rw [List.length_mergeSort]
  exact marksOf_len h
theorem marksOf_app (sv : List (Str × Int)) (p : Str × Int) (size : Int) : marksOf (sv ++ [p]) size = marksOf sv size ++ (List.range p.2.toNat).map fun (t : Nat) => (spotA p.1 t size, p.1) := by
  unfold marksOf
  simp
theorem marksOf_filter (sv : List (Str × Int)) (size : Int) (q : Str → Bool) : (marksOf sv size).filter (fun m => q m.2) = marksOf (sv.filter fun p => q p.1) size := by
  unfold marksOf
  induction sv with
  | nil => rfl
  | cons p sv ih =>
    rw [List.flatMap_cons, List.filter_append, ih]
    have h0 : (List.filter (fun m : Int × Str => q m.2) ((List.range p.2.toNat).map fun (t : Nat) => (spotA p.1 t size, p.1))) = if q p.1 = true then (List.range p.2.toNat).map fun (t : Nat) => (spotA p.1 t size, p.1) else [] := by
      split
      · rename_i h
        refine List.filter_eq_self.mpr fun m hm => ?_
        obtain ⟨t, _, rfl⟩ := List.mem_map.mp hm
        exact h
      · rename_i h
        refine List.filter_eq_nil_iff.mpr fun m hm => ?_
        obtain ⟨t, _, rfl⟩ := List.mem_map.mp hm
        exact h
    rw [h0]
    by_cases h : q p.1 = true
    · have h1 : List.filter (fun p : Str × Int => q p.1) (p :: sv) = p :: List.filter (fun p : Str × Int => q p.1) sv := List.filter_cons_of_pos h
      rw [if_pos h, h1, List.flatMap_cons]
    · have h1 : List.filter (fun p : Str × Int => q p.1) (p :: sv) = List.filter (fun p : Str × Int => q p.1) sv := List.filter_cons_of_neg h
      rw [if_neg h, h1, List.nil_append]
theorem sort_filter (l : List (Int × Str)) (q : Int × Str → Bool) : (l.mergeSort leM).filter q = (l.filter q).mergeSort leM := by
  refine List.Perm.eq_of_pairwise (le := fun a b => leM a b = true) (fun a b _ _ h1 h2 => leM_anti h1 h2) ((List.pairwise_mergeSort leM_trans leM_total l).filter q) (List.pairwise_mergeSort leM_trans leM_total _) ?_
  exact ((List.mergeSort_perm l leM).filter q).trans (List.mergeSort_perm _ leM).symm
theorem marksA_filter (sv : List (Str × Int)) (size : Int) (q : Str → Bool) : (marksA sv size).filter (fun m => q m.2) = marksA (sv.filter fun p => q p.1) size := by
  unfold marksA
  rw [sort_filter, marksOf_filter]
theorem metA_filter (q : Str → Bool) (ns : List Str) : (metA ns).filter q = metA (ns.filter q) := by
  have : ∀ (ns acc : List Str), (ns.foldl addN acc).filter q = (ns.filter q).foldl addN (acc.filter q) := by
    intro ns
    induction ns with
    | nil => intro acc; rfl
    | cons n ns ih =>
      intro acc
      rw [List.foldl_cons, ih]
      cases h : q n with
      | true =>
        rw [List.filter_cons_of_pos h, List.foldl_cons]
        congr 1
        unfold addN
        by_cases hn : n ∈ acc
        · rw [if_pos hn, if_pos (List.mem_filter.mpr ⟨hn, h⟩)]
        · rw [if_neg hn, if_neg (fun z => hn (List.mem_filter.mp z).1), List.filter_append, List.filter_cons_of_pos h]
          rfl
      | false =>
        rw [List.filter_cons_of_neg (by rw [h]; exact Bool.false_ne_true)]
        congr 1
        unfold addN
        split
        · rfl
        · rw [List.filter_append, List.filter_cons_of_neg (by rw [h]; exact Bool.false_ne_true)]
          simp
  exact this ns []
theorem ringA_filter (q : Str → Bool) (ms : List (Int × Str)) (spot : Int) : (ringA ms spot).filter (fun m => q m.2) = ringA (ms.filter fun m => q m.2) spot := by
  unfold ringA
  rw [List.filter_append, List.filter_filter, List.filter_filter, List.filter_filter, List.filter_filter]
  congr 1 <;> (apply List.filter_congr; intro m _; exact Bool.and_comm _ _)
theorem rowA_filter (q : Str → Bool) (ms : List (Int × Str)) (spot : Int) : (rowA ms spot).filter q = rowA (ms.filter fun m => q m.2) spot := by
  unfold rowA
  rw [metA_filter, ← ringA_filter, List.filter_map]
  rfl
/-- the row of all but the marks of some -/
theorem row_filter (q : Str → Bool) (sv : List (Str × Int)) (size spot : Int) : (rowA (marksA sv size) spot).filter q = rowA (marksA (sv.filter fun p => q p.1) size) spot := by
  rw [rowA_filter, marksA_filter]
theorem mem_rowA {n : Str} {ms : List (Int × Str)} {spot : Int} : n ∈ rowA ms spot ↔ n ∈ ms.map (·.2) := by
  unfold rowA ringA
  rw [mem_metA, List.map_append, List.mem_append]
  simp only [List.mem_map, List.mem_filter, decide_eq_true_eq]
  constructor
  · rintro (⟨m, ⟨h, _⟩, e⟩ | ⟨m, ⟨h, _⟩, e⟩) <;> exact ⟨m, h, e⟩
  · rintro ⟨m, h, e⟩
    by_cases hm : m.1 ≥ spot
    · exact .inl ⟨m, ⟨h, hm⟩, e⟩
    · exact .inr ⟨m, ⟨h, by omega⟩, e⟩
theorem mem_marksA {n : Str} {sv : List (Str × Int)} {size : Int} (hs : svOk sv) : n ∈ (marksA sv size).map (·.2) ↔ n ∈ sv.map (·.1) := by
  unfold marksA
  rw [((List.mergeSort_perm (marksOf sv size) leM).map (·.2)).mem_iff]
  unfold marksOf
  simp only [List.mem_map, List.mem_flatMap, List.mem_range]
  constructor
  · rintro ⟨m, ⟨p, hp, t, _, e1⟩, e2⟩
    subst e1
    exact ⟨p, hp, e2⟩
  · rintro ⟨p, hp, e⟩
    have h := hs p hp
    exact ⟨_, ⟨p, hp, 0, by omega, rfl⟩, e⟩
theorem rowA_len {ms : List (Int × Str)} {spot : Int} : (rowA ms spot).length ≤ 2 * ms.length := by
  have h1 := metA_len ((ringA ms spot).map (·.2))
  have h2 := List.length_filter_le (fun m : Int × Str => decide (m.1 ≥ spot)) ms
  have h3 := List.length_filter_le (fun m : Int × Str => decide (m.1 < spot)) ms
  rw [List.length_map] at h1
  unfold ringA at h1
  rw [List.length_append] at h1
  show (metA _).length ≤ _
  unfold ringA
  omega
theorem perm_of_nodup {l m : List Str} (hl : l.Nodup) (hm : m.Nodup) (h : ∀ x, x ∈ l ↔ x ∈ m) : l.Perm m := by
  induction l generalizing m with
  | nil =>
    cases m with
    | nil => exact List.Perm.refl _
    | cons y m => exact absurd ((h y).mpr (List.mem_cons_self ..)) (by simp)
  | cons x l ih =>
    have hx : x ∈ m := (h x).mp (List.mem_cons_self ..)
    have hl2 := List.nodup_cons.mp hl
    have hp : m.Perm (x :: m.erase x) := List.perm_cons_erase hx
    have hm2 := List.nodup_cons.mp (hp.nodup hm)
    refine (List.Perm.cons x (ih hl2.2 hm2.2 fun y => ?_)).trans hp.symm
    have h1 := h y
    have h2 := hp.mem_iff (a := y)
    simp only [List.mem_cons] at h1 h2
    constructor
    · intro hy
      have h3 := h2.mp (h1.mp (.inr hy))
      rcases h3 with h3 | h3
      · subst h3; exact absurd hy hl2.1
      · exact h3
    · intro hy
      have h3 := h1.mpr (h2.mpr (.inr hy))
      rcases h3 with h3 | h3
      · subst h3; exact absurd hy hm2.1
      · exact h3
/-! texts sorted -/
def leT (a b : Str) : Bool := decide (a.cps.toList ≤ b.cps.toList)
theorem alike_str (ns : List Str) : PySem.W.AllAlike (ns.map PyData.str) := PySem.W.AllAlike.of fun _ _ => rfl
theorem sortable_str (ns : List Str) : PySem.W.Sortable (ns.map PyData.str) := PySem.W.Sortable.others fun b => ⟨(fun h => by cases h), fun _ h => by cases h⟩
theorem dep_strs {ns : List Str} : ∀ d ∈ ns.map PyData.str, d.depth ≤ 32 := fun d hd => by
  obtain ⟨m, _, rfl⟩ := List.mem_map.mp hd
  exact Nat.zero_le _
theorem srt_strs (ns : List Str) : srt (ns.map .str) = (ns.mergeSort leT).map .str := by
  unfold srt
  refine (PySem.W.sort_maps PyData.str fun a _ b _ => ?_).symm
  have := congrFun (congrFun (PySem.W.dataLe_str (β := Str) fun d => d) a) b
  exact this.symm
theorem sortT_perm {l m : List Str} (h : l.Perm m) : l.mergeSort leT = m.mergeSort leT := by
  have tr : ∀ a b c : Str, leT a b = true → leT b c = true → leT a c = true := fun a b c h1 h2 => by
    unfold leT at *
    exact decide_eq_true (List.le_trans (of_decide_eq_true h1) (of_decide_eq_true h2))
  have to : ∀ a b : Str, (leT a b || leT b a) = true := fun a b => by
    unfold leT
    rcases List.le_total a.cps.toList b.cps.toList with h | h <;> simp [h]
  refine List.Perm.eq_of_pairwise (le := fun a b => leT a b = true) (fun a b _ _ h1 h2 => sg_inj (List.le_antisymm (of_decide_eq_true h1) (of_decide_eq_true h2))) (List.pairwise_mergeSort tr to l) (List.pairwise_mergeSort tr to m) ?_
  exact ((List.mergeSort_perm l leT).trans h).trans (List.mergeSort_perm m leT).symm
/-! a name that is not there -/
def spares : List Str := ["zz9", "zz8", "zz7", "zz6", "zz5", "zz4", "zz3", "zz2", "zz1"]
def spareA (ns : List Str) : Str := (spares.filter fun n => !decide (n ∈ ns)).getD 0 Str.empty
theorem len_sub {l m : List Str} (hl : l.Nodup) (h : ∀ x ∈ l, x ∈ m) : l.length ≤ m.length := by
  induction l generalizing m with
  | nil => simp
  | cons x l ih =>
    have hx := h x (List.mem_cons_self ..)
    have hl2 := List.nodup_cons.mp hl
    have hp : m.Perm (x :: m.erase x) := List.perm_cons_erase hx
    have h1 := ih (m := m.erase x) hl2.2 fun y hy => by
      have h3 := hp.mem_iff.mp (h y (List.mem_cons_of_mem _ hy))
      rcases List.mem_cons.mp h3 with h3 | h3
      · subst h3; exact absurd hy hl2.1
      · exact h3
    have h2 := hp.length_eq
    simp only [List.length_cons] at h2 ⊢
    omega
theorem spare_some {ns : List Str} (h : ns.length ≤ 8) : 0 < (spares.filter fun n => !decide (n ∈ ns)).length := by
  by_cases h0 : (spares.filter fun n => !decide (n ∈ ns)) = []
  · exfalso
    have h1 : ∀ x ∈ spares, x ∈ ns := fun x hx => by
      have := List.filter_eq_nil_iff.mp h0 x hx
      simpa using this
    have h2 := len_sub (l := spares) (by decide +kernel) h1
    have h3 : spares.length = 9 := by decide +kernel
    omega
  · exact List.length_pos_iff.mpr h0
theorem spare_in {ns : List Str} (h : ns.length ≤ 8) : spareA ns ∈ spares ∧ spareA ns ∉ ns := by
  have h1 := getD_mem (d := Str.empty) (spare_some h)
  have h2 := List.mem_filter.mp h1
  exact ⟨h2.1, of_decide_eq_false (by rw [← Bool.not_eq_true']; exact h2.2)⟩
theorem spares_ok : ∀ x ∈ spares, nmOk x := by unfold nmOk; decide +kernel
section
variable {ι : Type} {X : ι → Cx} {K : PySem.W.Frag} {E : Ent} {Γ : Slots} {R R1 : List Res} {e : Expr}
/-- a text of which nothing more is said -/
theorem ev_some {x : Str} (h : EvJ X K E Γ R e R1 (dS x)) : EvN X K E Γ R e (fun _ : {_y : Str // True} => R1) (fun n => dS n.1) := let ⟨t, h1, h2⟩ := h; ⟨t, h1, fun S σ H Q q k => h2 S σ H Q q (k ⟨x, trivial⟩)⟩
end
end SL

/-! servers of six fields -/
namespace SL
open PySem PySem.Spec PyProof.Rows L2
section
variable {ι : Type} {X : ι → Cx} {K : PySem.W.Frag} {E : Ent} {B : Hp} {Γ Γ' : Slots} {R R' R1 R2' R3 : List Res} {a b c e o : Expr} {es : List Expr} {pos p' : Pos} {s s1 s2 s3 : Sl}
  {P : Program} {w : World} {mg : Str → Option Value} {base : Heap} {A : Around} {N : List Str} {rest sts : List Stmt} {D : Ends} {S S' H H' : Hp} {σ σ' : L2.St} {f : Str} {ps : List Str} {i j : Int} {x y : Str}
/-- xs.clear(), xs one's own -/
theorem ev_clear (F : Fam X P w K mg base A N) (k : Nat) {p : Addr} {ds : List PyData} {apos : Pos} (ho : EvJ X K E Γ R o R (sv (.ref p))) (hk : R[k]? = some (rL p ds))
    (hbase : ∀ i, attributeBase o "clear" (X i).env (eval o (X i).env) = eval o (X i).env := by exact fun _ => rfl)
    (hline : (apos.endLine == pos.line) = true := by rfl) :
    EvJ X K E Γ R (.Call (.Attribute o "clear" apos) [] [] pos) (R.set k (rL p [])) dN := by
  refine ev_mt0 F PySem.F.plainAttrs_list PySem.F.slot_list_clear PySem.F.type_list_clear ho ⟨rClear, fun _ => mt_clear, fun Γ S σ H x q r => tyL (lv_o k hk) q r, fun Γ S σ H x xs Q q r1 r2 k' => ?_⟩ hbase hline
  cases r2
  cases (show x = .ref p from r1)
  obtain ⟨vs, c1, c2⟩ := q.cellL k hk
  exact ⟨p, vs, rfl, rfl, c1, k' _ S _ (Same.refl _) (q.putL k hk .nil) rfl⟩
/-- t[lo:hi] of a tuple of data -/
theorem ev_sliceT {lo hi : Option Expr} {ol oh : Option Int} {p2 : Pos} (F : Fam X P w K mg base A N) {ds : List PyData} (he : EvJ X K E Γ R e R s1) (ht : TV K R s1 ds) (h1 : PoJ X K E Γ R lo ol) (h2 : PoJ X K E Γ R hi oh) : EvJ X K E Γ R (.Subscript e (.Slice lo hi none p2) pos) R (sd (.tuple (cutD ds ol oh))) := by
  obtain ⟨t, a1, a2⟩ := he
  obtain ⟨tl, b1, b2⟩ := h1
  obtain ⟨th, c1, c2⟩ := h2
  refine ⟨tSl (rSlA K) t tl th, fun n => pe_slice (by rw [← F.fK n]; exact sl_tupA) (a1 n) (b1 n) (c1 n), fun S σ H Q q k => a2 S σ H _ q fun v S1 H1 e1 q1 r1 => b2 S1 σ H1 _ q1 fun S2 H2 e2 q2 => c2 S2 σ H2 _ q2 fun S3 H3 e3 q3 => ?_⟩
  obtain ⟨p, vs, rfl, g1, g2⟩ := ht E Γ S3 σ H3 v q3 (s1.mono (e2.trans e3) r1)
  have hl := daAll_len g2
  refine ⟨p, vs, rfl, same_t q3.sub g1, fun hw => k _ S3 _ ((e1.trans e2).trans e3) q3 ?_, fun _ l hl' => k (.ref l) (upd S3 l (.tup (cutV vs ol oh))) _ (((e1.trans e2).trans e3).trans (same_new (q3.free hl'))) (q3.grow hl') (.tup (SqT.of upd_same) (daAll_cut ol oh (daAll_same (same_new (q3.free hl')) g2)))⟩
  have : cutD ds ol oh = ds := by
    unfold cutD
    rw [← hl, hw.1, hw.2, List.drop_zero, Nat.sub_zero, hl, List.take_length]
  rw [this]
  exact .tup g1 g2
theorem br_catT (F : Fam X P w K mg base A N) {ds es' : List PyData} (h1 : TV K R s1 ds) (h2 : TV K R s2 es') (hd : ds ≠ []) (hz : ds.length + es'.length ≤ 1000) : BinR X K E (binaryOp .Add) R s1 s2 (sd (.tuple (ds ++ es'))) :=
  ⟨rCatT K, fun n => by rw [← F.fK n]; exact op_catT, fun Γ S σ H x y Q q r1 r2 k => by
    obtain ⟨p, vs, rfl, g1, g2⟩ := h1 E Γ S σ H x q r1
    obtain ⟨p2, us, rfl, g3, g4⟩ := h2 E Γ S σ H y q r2
    have l1 := daAll_len g2
    have l2 := daAll_len g4
    have : (sizeLine : Nat) = 16777216 := sizeLine_eq
    refine ⟨p, p2, vs, us, rfl, rfl, same_t q.sub g1, same_t q.sub g3, fun e => hd (by rw [e] at l1; exact List.length_eq_zero_iff.mp l1.symm), by omega, fun e => k _ S _ (Same.refl _) q ?_, fun _ l hl => k (.ref l) (upd S l (.tup (vs ++ us))) _ (same_new (q.free hl)) (q.grow hl) (.tup (SqT.of upd_same) (daAll_app (daAll_same (same_new (q.free hl)) g2) (daAll_same (same_new (q.free hl)) g4)))⟩
    have : es' = [] := by rw [e] at l2; exact List.length_eq_zero_iff.mp l2.symm
    rw [this, List.append_nil]
    exact .tup g1 g2⟩
end
/-! a server: name, zone, weight, well, drains, held -/
abbrev Sx := Str × Str × Int × Bool × Bool × Int
def wdA (b : Bool) : Str := if b then "well" else "ill"
theorem wdA_eq (b : Bool) : decide (wdA b = ("well" : Str)) = b := by cases b <;> decide +kernel
theorem wdA_eq' (b : Bool) : decide (wdA b = ("ill" : Str)) = !b := by cases b <;> decide +kernel
abbrev sxD (p : Sx) : PyData := .tuple [.str p.1, .str p.2.1, .int p.2.2.1, .str (wdA p.2.2.2.1), .bool p.2.2.2.2.1, .int p.2.2.2.2.2]
theorem sl_sx (xs : List Sx) : (xs.map sxD).map sl = xs.map fun p => sd (sxD p) := by rw [List.map_map]; rfl
def liveA (p : Sx) : Bool := p.2.2.2.1 && !p.2.2.2.2.1
def capA (many weight whole extra : Int) : Int := (many * weight * (100 + extra) + 100 * whole - 1) / (100 * whole)
def manyA (xs : List Sx) : Int := ((xs.filter liveA).map fun p => p.2.2.2.2.2).sum + 1
def wholeA (xs : List Sx) : Int := ((xs.filter liveA).map fun p => p.2.2.1).sum
def freeA (xs : List Sx) (extra : Int) : List Sx := (xs.filter liveA).filter fun p => decide (p.2.2.2.2.2 < capA (manyA xs) p.2.2.1 (wholeA xs) extra)
def sxOk (xs : List Sx) : Prop := ∀ p ∈ xs, nmOk p.1 ∧ p.2.1.length ≤ 9 ∧ 1 ≤ p.2.2.1 ∧ p.2.2.1 ≤ 20 ∧ 0 ≤ p.2.2.2.2.2
theorem freeA_len {xs : List Sx} {extra : Int} : (freeA xs extra).length ≤ xs.length := Nat.le_trans (List.length_filter_le _ _) (List.length_filter_le _ _)
theorem sum_bd {l : List Int} (h : ∀ x ∈ l, 1 ≤ x ∧ x ≤ 20) : (l.length : Int) ≤ l.sum ∧ l.sum ≤ 20 * l.length := by
  induction l with
  | nil => exact ⟨Int.le_refl _, Int.le_refl _⟩
  | cons x l ih =>
    have h1 := ih fun y hy => h y (List.mem_cons_of_mem _ hy)
    have h2 := h x (List.mem_cons_self ..)
    rw [List.sum_cons, List.length_cons]
    omega
theorem sum_nn {l : List Int} (h : ∀ x ∈ l, 0 ≤ x) : 0 ≤ l.sum := by
  induction l with
  | nil => exact Int.le_refl _
  | cons x l ih =>
    have h1 := ih fun y hy => h y (List.mem_cons_of_mem _ hy)
    have h2 := h x (List.mem_cons_self ..)
    rw [List.sum_cons]
    omega
theorem whole_ok {xs : List Sx} {p : Sx} (h : sxOk xs) (hl : xs.length ≤ 100) (hp : p ∈ xs.filter liveA) : 0 < wholeA xs ∧ wholeA xs ≤ 1000000000 := by
  have h1 := sum_bd (l := (xs.filter liveA).map fun p => p.2.2.1) fun z hz => by
    obtain ⟨q, hq, rfl⟩ := List.mem_map.mp hz
    have := h q ((List.mem_filter.mp hq).1)
    exact ⟨this.2.2.1, this.2.2.2.1⟩
  rw [List.length_map] at h1
  have h2 : (xs.filter liveA).length ≤ 100 := Nat.le_trans (List.length_filter_le _ _) hl
  have h3 : 0 < (xs.filter liveA).length := List.length_pos_of_mem hp
  unfold wholeA
  omega
theorem many_ok {xs : List Sx} (h : sxOk xs) : 1 ≤ manyA xs := by
  have h1 := sum_nn (l := (xs.filter liveA).map fun p => p.2.2.2.2.2) fun z hz => by
    obtain ⟨q, hq, rfl⟩ := List.mem_map.mp hz
    exact (h q ((List.mem_filter.mp hq).1)).2.2.2.2
  unfold manyA
  omega
theorem lt_cap {held many weight whole extra : Int} (h : 0 < whole) : decide (held * 100 * whole < many * weight * (100 + extra)) = decide (held < capA many weight whole extra) := by
  unfold capA
  generalize many * weight * (100 + extra) = t
  rw [Int.mul_assoc]
  have hb : 0 < 100 * whole := by omega
  generalize 100 * whole = b at hb ⊢
  have e : held < (t + b - 1) / b ↔ (held + 1) * b ≤ t + b - 1 := by rw [Int.lt_iff_add_one_le, Int.le_ediv_iff_mul_le hb]
  rw [Int.add_mul, Int.one_mul] at e
  refine decide_eq_decide.mpr ?_
  rw [e]
  omega
end SL

/-! bools in lists; free ones of some -/
namespace SL
open PySem PySem.Spec PyProof.Rows L2
section
variable {ι : Type} {X : ι → Cx} {K : PySem.W.Frag} {E : Ent} {B : Hp} {Γ Γ' : Slots} {R R' R1 R2' R3 : List Res} {a b c e o : Expr} {es : List Expr} {pos p' : Pos} {s s1 s2 s3 : Sl}
  {P : Program} {w : World} {mg : Str → Option Value} {base : Heap} {A : Around} {N : List Str} {rest sts : List Stmt} {D : Ends} {S S' H H' : Hp} {σ σ' : L2.St} {f : Str} {ps : List Str} {i j : Int} {x y : Bool}
theorem inV_bools (ns : List Bool) : inV (.bl x) (ns.map V.bl) = decide (x ∈ ns) := by
  unfold inV
  rw [List.any_map, Bool.eq_iff_iff, List.any_eq_true, decide_eq_true_eq]
  constructor
  · rintro ⟨y, hy, h⟩
    have : y = x := by
      have h2 : eqV (.bl y) (.bl x) = true := h
      cases x <;> cases y <;> first | rfl | (exact absurd h2 (by decide))
    rw [← this]; exact hy
  · intro h
    exact ⟨x, h, by cases x <;> decide⟩
theorem br_inB (F : Fam X P w K mg base A N) {ds : List PyData} (h : LV K R s2 ds) (ha : ds.all isB = true) : BinR X K E (compareOp .In) R (dB x) s2 (dB (decide (x ∈ ds.map dbool))) :=
  ⟨rIn K false, fun n => by rw [← F.fK n]; exact op_in_seq, fun Γ S σ H u y Q q r1 r2 k => by
    cases (show u = .bl x from r1)
    obtain ⟨p, vs, rfl, h1, h2⟩ := h E Γ S σ H y q r2
    rw [da_bools ha h2] at h1
    exact ⟨p, _, rfl, .inl (SqL.of h1), rfl, List.all_eq_true.mpr fun z hz => by obtain ⟨t, _, rfl⟩ := List.mem_map.mp hz; rfl, k _ S H (Same.refl _) q (by rw [← inV_bools]; rfl)⟩⟩
theorem br_ninB (F : Fam X P w K mg base A N) {ds : List PyData} (h : LV K R s2 ds) (ha : ds.all isB = true) : BinR X K E (compareOp .NotIn) R (dB x) s2 (dB (!decide (x ∈ ds.map dbool))) :=
  ⟨rIn K true, fun n => by rw [← F.fK n]; exact op_notIn_seq, fun Γ S σ H u y Q q r1 r2 k => by
    cases (show u = .bl x from r1)
    obtain ⟨p, vs, rfl, h1, h2⟩ := h E Γ S σ H y q r2
    rw [da_bools ha h2] at h1
    exact ⟨p, _, rfl, .inl (SqL.of h1), rfl, List.all_eq_true.mpr fun z hz => by obtain ⟨t, _, rfl⟩ := List.mem_map.mp hz; rfl, k _ S H (Same.refl _) q (by rw [← inV_bools]; rfl)⟩⟩
end
theorem dbool_bools (ns : List Bool) : (ns.map PyData.bool).map dbool = ns := by
  rw [List.map_map]
  exact List.map_id _
theorem sums_le {xs : List Sx} {m W x : Int} (h : ∀ p ∈ xs, m * p.2.2.1 * x ≤ p.2.2.2.2.2 * 100 * W) : m * (xs.map fun p => p.2.2.1).sum * x ≤ (xs.map fun p => p.2.2.2.2.2).sum * 100 * W := by
  induction xs with
  | nil => simp
  | cons p xs ih =>
    have h1 := ih fun q hq => h q (List.mem_cons_of_mem _ hq)
    have h2 := h p (List.mem_cons_self ..)
    rw [List.map_cons, List.map_cons, List.sum_cons, List.sum_cons, Int.mul_add, Int.add_mul, Int.add_mul, Int.add_mul]
    omega
theorem free_some {xs : List Sx} {extra : Int} (h : sxOk xs) (hl : xs.length ≤ 100) (he : 0 ≤ extra) {p : Sx} (hp : p ∈ xs.filter liveA) : freeA xs extra ≠ [] := by
  intro e
  have hw := whole_ok h hl hp
  have hm := many_ok h
  have h1 : ∀ p ∈ xs.filter liveA, manyA xs * p.2.2.1 * (100 + extra) ≤ p.2.2.2.2.2 * 100 * wholeA xs := fun q hq => by
    have h2 : ¬ q.2.2.2.2.2 < capA (manyA xs) q.2.2.1 (wholeA xs) extra := fun h3 => by
      have : q ∈ freeA xs extra := List.mem_filter.mpr ⟨hq, by simpa using h3⟩
      rw [e] at this
      exact nomatch this
    have h4 := lt_cap (held := q.2.2.2.2.2) (many := manyA xs) (weight := q.2.2.1) (extra := extra) hw.1
    have h5 := decide_eq_decide.mp h4
    exact Int.not_lt.mp fun h6 => h2 (h5.mp h6)
  have h2 := sums_le h1
  have e1 : ((xs.filter liveA).map fun p => p.2.2.2.2.2).sum = manyA xs - 1 := by unfold manyA; omega
  have e2 : ((xs.filter liveA).map fun p => p.2.2.1).sum = wholeA xs := rfl
  rw [e1, e2] at h2
  have hw0 := hw.1
  generalize manyA xs = m at *
  generalize wholeA xs = W at *
  have h3 : m * W * 100 ≤ m * W * (100 + extra) := Int.mul_le_mul_of_nonneg_left (by omega) (Int.mul_nonneg (by omega) (by omega))
  rw [Int.sub_mul, Int.sub_mul, Int.mul_assoc m 100 W, Int.mul_comm 100 W, ← Int.mul_assoc m W 100] at h2
  generalize m * W * (100 + extra) = u at *
  generalize m * W * 100 = v at *
  omega
theorem dep_sxD {k : Nat} {m : Sx} : dep (k + 1) (sxD m) := dep_tup (depA_cons dep_str (depA_cons dep_str (depA_cons dep_int (depA_cons dep_str (depA_cons dep_bool (depA_cons dep_int depA_nil))))))
def goneP (q : Sx × Nat) : Sx := (q.1.1, q.1.2.1, q.1.2.2.1, decide ((q.2 : Int) % 2 = 1), decide ((q.2 : Int) % 2 = 1), q.1.2.2.2.2.2)
theorem gone_free {xs : List Sx} {extra : Int} : freeA (xs.zipIdx.map goneP) extra = [] := by
  unfold freeA
  have : (xs.zipIdx.map goneP).filter liveA = [] := List.filter_eq_nil_iff.mpr fun p hp => by
    obtain ⟨q, _, rfl⟩ := List.mem_map.mp hp
    unfold liveA goneP
    cases decide ((q.2 : Int) % 2 = 1) <;> simp
  rw [this]
  rfl
theorem gone_ok {xs : List Sx} (h : sxOk xs) : sxOk (xs.zipIdx.map goneP) := fun p hp => by
  obtain ⟨q, hq, rfl⟩ := List.mem_map.mp hp
  exact h q.1 (List.fst_mem_of_mem_zipIdx hq)
theorem gone_wd (n : Nat) : (List.map dstr [PyData.str "ill", PyData.str "well"]).getD ((n : Int) % 2).toNat Str.empty = wdA (decide ((n : Int) % 2 = 1)) := by
  have : (n : Int) % 2 = 0 ∨ (n : Int) % 2 = 1 := by omega
  rcases this with h | h <;> rw [h] <;> rfl
end SL

/-! who is chosen: the plain side -/
namespace SL
open PySem PySem.Spec PyProof.Rows L2
def dOS : Option Str → Sl
  | none => dN
  | some x => dS x
def p0 : Sx := (Str.empty, Str.empty, 1, false, false, 0)
def nearA (ys : List Sx) (zone : Str) : List Sx := ys.filter fun p => decide (p.2.1 = zone)
def someA (xs : List Sx) (zone : Str) (extra : Int) : List Sx := if decide (((nearA (freeA xs extra) zone).length : Int) > 0) = true then nearA (freeA xs extra) zone else freeA xs extra
def namedA (ys : List Sx) : List (Str × Sx) := ys.foldl (fun d p => pt d p.1 p) []
theorem named_app (ys : List Sx) (p : Sx) : namedA (ys ++ [p]) = pt (namedA ys) p.1 p := by unfold namedA; rw [List.foldl_append]; rfl
theorem rev_ind {α : Type} {P : List α → Prop} (h0 : P []) (h1 : ∀ l x, P l → P (l ++ [x])) (l : List α) : P l := by
  have : ∀ l : List α, P l.reverse := fun l => by
    induction l with
    | nil => exact h0
    | cons x l ih => rw [List.reverse_cons]; exact h1 _ _ ih
  have h := this l.reverse
  rwa [List.reverse_reverse] at h
theorem named_len (ys : List Sx) : (namedA ys).length ≤ ys.length := by
  refine rev_ind (P := fun ys => (namedA ys).length ≤ ys.length) (Nat.le_refl _) (fun l x ih => ?_) ys
  rw [named_app, List.length_append]
  exact Nat.le_trans (pt_len _ _ _) (Nat.succ_le_succ ih)
theorem named_mem {x : Str} {p : Sx} (ys : List Sx) : lk (namedA ys) x = some p → p ∈ ys ∧ p.1 = x := by
  refine rev_ind (P := fun ys => lk (namedA ys) x = some p → p ∈ ys ∧ p.1 = x) (fun h => nomatch h) (fun l q ih h => ?_) ys
  rw [named_app, lk_pt] at h
  split at h
  · rename_i h2
    cases h
    exact ⟨List.mem_append.mpr (.inr (List.mem_singleton.mpr rfl)), h2.symm⟩
  · exact ⟨List.mem_append.mpr (.inl (ih h).1), (ih h).2⟩
theorem named_some {ys : List Sx} {p : Sx} (hp : p ∈ ys) : (lk (namedA ys) p.1).isSome = true := by
  revert hp
  refine rev_ind (P := fun ys => p ∈ ys → (lk (namedA ys) p.1).isSome = true) (fun h => nomatch h) (fun l q ih h => ?_) ys
  rw [named_app, lk_pt]
  split
  · rfl
  · rename_i h2
    rcases List.mem_append.mp h with h | h
    · exact ih h
    · rw [List.mem_singleton.mp h] at h2
      exact absurd rfl h2
def pickA (d : List (Str × Sx)) (x : Str) : Sx := (lk d x).getD p0
def svA (xs : List Sx) : List (Str × Int) := xs.map fun p => (p.1, p.2.2.1)
theorem svA_ok {xs : List Sx} (h : sxOk xs) : svOk (svA xs) := fun p hp => by
  obtain ⟨q, hq, rfl⟩ := List.mem_map.mp hp
  exact ⟨(h q hq).1, (h q hq).2.2.1, (h q hq).2.2.2.1⟩
def metX (xs : List Sx) (asker zone : Str) (size extra : Int) : List Sx :=
  ((rowA (marksA (svA xs) size) (spotA asker 0 size)).filter fun n => (lk (namedA (someA xs zone extra)) n).isSome).map (pickA (namedA (someA xs zone extra)))
def lighterA (a b : Sx) : Sx := if decide (b.2.2.2.2.2 * a.2.2.1 < a.2.2.2.2.2 * b.2.2.1) = true then b else a
def firstA : List Sx → Option Str
  | [] => none
  | [a] => some a.1
  | a :: b :: _ => some (lighterA a b).1
def chosenA (xs : List Sx) (asker zone : Str) (size extra : Int) : Option Str := firstA (metX xs asker zone size extra)
theorem some_sub {xs : List Sx} {zone : Str} {extra : Int} {p : Sx} (h : p ∈ someA xs zone extra) : p ∈ freeA xs extra := by
  unfold someA at h
  split at h
  · exact (List.mem_filter.mp h).1
  · exact h
theorem free_sub {xs : List Sx} {extra : Int} {p : Sx} (h : p ∈ freeA xs extra) : p ∈ xs := (List.mem_filter.mp (List.mem_filter.mp h).1).1
theorem met_sub {xs : List Sx} {asker zone : Str} {size extra : Int} {p : Sx} (h : p ∈ metX xs asker zone size extra) : p ∈ someA xs zone extra := by
  unfold metX at h
  obtain ⟨n, hn, rfl⟩ := List.mem_map.mp h
  have h2 := (List.mem_filter.mp hn).2
  obtain ⟨q, hq⟩ := Option.isSome_iff_exists.mp h2
  unfold pickA
  rw [hq]
  exact (named_mem _ hq).1
theorem some_len {xs : List Sx} {zone : Str} {extra : Int} : (someA xs zone extra).length ≤ xs.length := by
  unfold someA
  split
  · exact Nat.le_trans (List.length_filter_le _ _) freeA_len
  · exact freeA_len
theorem atI0 {α : Type} {x : α} {xs : List α} : atI (x :: xs) 0 = some x := atI_nat (j := 0) rfl
theorem atI1 {α : Type} {x y : α} {xs : List α} : atI (x :: y :: xs) 1 = some y := atI_nat (j := 1) rfl
end SL

/-! led within caps: the plain side; xs.index(x) -/
namespace SL
open PySem PySem.Spec PyProof.Rows L2
section
variable {ι : Type} {X : ι → Cx} {K : PySem.W.Frag} {E : Ent} {B : Hp} {Γ Γ' : Slots} {R R' R1 R2' R3 : List Res} {a b c e o : Expr} {es : List Expr} {pos p' : Pos} {s s1 s2 s3 : Sl}
  {P : Program} {w : World} {mg : Str → Option Value} {base : Heap} {A : Around} {N : List Str} {rest sts : List Stmt} {D : Ends} {S S' H H' : Hp} {σ σ' : L2.St} {f : Str} {ps : List Str} {i j : Int} {x y : Str}
theorem ev_lindex (F : Fam X P w K mg base A N) {ns : List Str} {m : Nat} {apos : Pos} (ho : EvJ X K E Γ R o R s1) (hl : LV K R s1 (ns.map .str)) (ha : EvJ X K E Γ R e R (dS x)) (hm : ns[m]? = some x) (hf : ∀ k, k < m → ns[k]? ≠ some x)
    (hbase : ∀ i, attributeBase o "index" (X i).env (eval o (X i).env) = eval o (X i).env := by exact fun _ => rfl)
    (hfew : ∀ i, ((backTo pos (starEach [e] (X i).env)).all (fun x => !x.1) && (backToKw pos (keywordEach [] (X i).env)).all (fun x => x.1.isSome) && decide ([e].length + ([] : List Keyword).length + (if ([] : List Keyword).isEmpty then 0 else 1) < 30)) = true := by exact fun _ => rfl)
    (hline : (apos.endLine == pos.line) = true := by rfl) (hst : ∀ i, starEach [e] (X i).env = (false, eval e (X i).env) :: starEach [] (X i).env := by exact fun _ => rfl) (hplain : ∀ i, (backTo pos (starEach [] (X i).env)).any (·.1) = false := by exact fun _ => rfl) :
    EvJ X K E Γ R (.Call (.Attribute o "index" apos) [e] [] pos) R (dI (m : Int)) := by
  refine ev_mt F PySem.F.plainAttrs_list PySem.F.slot_list_index PySem.F.type_list_index ho (ar_cons ha ar_nil hst) ⟨rIndex K, fun n => by rw [← F.fK n]; exact mt_index, fun Γ S σ H v q r => tyL hl q r, fun Γ S σ H v xs Q q r1 r2 k' => ?_⟩ hbase hfew hline hst hplain
  obtain ⟨u, rfl, r3⟩ := all2_one r2
  cases (show u = .str x from r3)
  obtain ⟨p, vs, rfl, g1, g2⟩ := hl E Γ S σ H v q r1
  have ev : vs = ns.map V.str := by
    rw [da_strs (by rw [List.all_map]; exact List.all_eq_true.mpr fun _ _ => rfl) g2, dstr_strs]
  subst ev
  refine ⟨p, _, _, m, .str x, rfl, rfl, SqL.of g1, rfl, List.all_eq_true.mpr fun z hz => by obtain ⟨t, _, rfl⟩ := List.mem_map.mp hz; rfl, by rw [List.getElem?_map, hm]; rfl, beq_self_eq_true x, fun k z' hk hz => ?_, k' _ S H (Same.refl _) q rfl⟩
  rw [List.getElem?_map] at hz
  cases hn : ns[k]? with
  | none => rw [hn] at hz; exact nomatch hz
  | some t =>
    rw [hn] at hz
    cases hz
    exact beq_false_of_ne fun e => hf k hk (by rw [hn, e])
end
theorem flat_dOS {o : Option Str} : Flat (dOS o) := by cases o <;> exact flat_v
theorem chosen_some {xs : List Sx} {asker zone : Str} {size extra : Int} (h : sxOk xs) (hl : xs.length ≤ 100) (he : 0 ≤ extra) {p : Sx} (hp : p ∈ xs) (hv : liveA p = true) : ∃ q ∈ freeA xs extra, chosenA xs asker zone size extra = some q.1 := by
  have h1 := free_some h hl he (List.mem_filter.mpr ⟨hp, hv⟩)
  have h2 : ∃ r, r ∈ someA xs zone extra := by
    unfold someA
    split
    · rename_i h3
      have h3 := of_decide_eq_true h3
      exact List.exists_mem_of_length_pos (by omega)
    · exact List.exists_mem_of_ne_nil _ h1
  obtain ⟨r, hr⟩ := h2
  have h4 : r.1 ∈ rowA (marksA (svA xs) size) (spotA asker 0 size) := by
    rw [mem_rowA, mem_marksA (svA_ok h)]
    exact List.mem_map.mpr ⟨(r.1, r.2.2.1), List.mem_map.mpr ⟨r, free_sub (some_sub hr), rfl⟩, rfl⟩
  have h5 : metX xs asker zone size extra ≠ [] := fun e => by
    unfold metX at e
    rw [List.map_eq_nil_iff] at e
    have : r.1 ∈ ((rowA (marksA (svA xs) size) (spotA asker 0 size)).filter fun n => (lk (namedA (someA xs zone extra)) n).isSome) := List.mem_filter.mpr ⟨h4, named_some hr⟩
    rw [e] at this
    exact nomatch this
  have h6 : ∀ q ∈ metX xs asker zone size extra, q ∈ freeA xs extra := fun q hq => some_sub (met_sub hq)
  unfold chosenA
  match hm : metX xs asker zone size extra, h5, h6 with
  | [a], _, h6 => exact ⟨a, h6 a (by simp), rfl⟩
  | a :: b :: t, _, h6 =>
    refine ⟨lighterA a b, ?_, rfl⟩
    unfold lighterA
    split
    · exact h6 b (by simp)
    · exact h6 a (by simp)
theorem idx_of {xs : List Sx} {q : Sx} (hn : (xs.map (·.1)).Nodup) (hq : q ∈ xs) : ∃ m, xs[m]? = some q ∧ m < xs.length ∧ ∀ k, k < m → (xs.map (·.1))[k]? ≠ some q.1 := by
  obtain ⟨m, hm, e⟩ := List.getElem_of_mem hq
  refine ⟨m, by rw [List.getElem?_eq_getElem hm, e], hm, fun k hk hz => ?_⟩
  have h1 : (xs.map (·.1))[m]? = some q.1 := by rw [List.getElem?_map, List.getElem?_eq_getElem hm, e]; rfl
  have h2 : (xs.map (·.1))[k]? = (xs.map (·.1))[m]? := by rw [hz, h1]
  have := (List.getElem?_inj (by rw [List.length_map]; omega) hn).mp h2
  omega
theorem sum_set {l : List Int} {m : Nat} {x : Int} (h : l[m]? = some x) : (l.set m (x + 1)).sum = l.sum + 1 := by
  induction l generalizing m with
  | nil => exact nomatch h
  | cons a l ih =>
    cases m with
    | zero =>
      cases h
      rw [List.set_cons_zero, List.sum_cons, List.sum_cons]
      omega
    | succ m =>
      rw [List.set_cons_succ, List.sum_cons, List.sum_cons, ih (m := m) (by simpa using h)]
      omega
def heldUp (q : Sx) : Sx := (q.1, q.2.1, q.2.2.1, q.2.2.2.1, q.2.2.2.2.1, q.2.2.2.2.2 + 1)
def heldA (xs : List Sx) : Int := (xs.map fun p => p.2.2.2.2.2).sum
theorem held_set {xs : List Sx} {m : Nat} {q : Sx} (h : xs[m]? = some q) : heldA (xs.set m (heldUp q)) = heldA xs + 1 := by
  unfold heldA
  rw [List.map_set]
  exact sum_set (by rw [List.getElem?_map, h]; rfl)
theorem names_set {xs : List Sx} {m : Nat} {q : Sx} (h : xs[m]? = some q) : (xs.set m (heldUp q)).map (·.1) = xs.map (·.1) := by
  rw [List.map_set]
  obtain ⟨hm, e⟩ := List.getElem?_eq_some_iff.mp h
  have : (xs.map (·.1))[m]'(by rw [List.length_map]; exact hm) = (heldUp q).1 := by rw [List.getElem_map, e]; rfl
  rw [← this, List.set_getElem_self]
theorem ok_set {xs : List Sx} {m : Nat} {q : Sx} (h : sxOk xs) (hq : q ∈ xs) : sxOk (xs.set m (heldUp q)) := fun p hp => by
  rcases List.mem_or_eq_of_mem_set hp with h1 | h1
  · exact h p h1
  · rw [h1]
    have := h q hq
    exact ⟨this.1, this.2.1, this.2.2.1, this.2.2.2.1, by show 0 ≤ q.2.2.2.2.2 + 1; have := this.2.2.2.2; omega⟩
theorem live_set {xs : List Sx} {m : Nat} {q : Sx} (h : xs[m]? = some q) (hv : liveA q = true) : ∃ p ∈ xs.set m (heldUp q), liveA p = true := by
  obtain ⟨hm, e⟩ := List.getElem?_eq_some_iff.mp h
  exact ⟨heldUp q, List.mem_set hm _, hv⟩
end SL

namespace SL
open PySem PySem.Spec PyProof.Rows L2
section
variable {ι : Type} {X : ι → Cx} {K : PySem.W.Frag} {E : Ent} {Γ : Slots} {R R1 : List Res} {e : Expr}
/-- an int known by what holds of it alone -/
theorem ev_someI {i : Int} (Q : Int → Prop) (h : EvJ X K E Γ R e R1 (dI i)) (hQ : Q i) : EvN X K E Γ R e (fun _ : {y : Int // Q y} => R1) (fun n => dI n.1) := let ⟨t, h1, h2⟩ := h; ⟨t, h1, fun S σ H Q' q k => h2 S σ H Q' q (k ⟨i, hQ⟩)⟩
end
theorem small_str {x : Nat} (h : x < 40) : (x : Int).natAbs.log2 < 1920 := by
  have h1 : (x : Int).natAbs = x := rfl
  rw [h1]
  have : ∀ y : Nat, y < 40 → y.log2 < 1920 := by decide +kernel
  exact this x h
theorem ask_ok (x : Nat) (h : x < 40) : nmOk (("a" : Str) ++ toString (x : Int)) := by
  have : ∀ y : Nat, y < 40 → ((("a" : Str) ++ toString (y : Int)) : Str).length ≤ 9 ∧ ∀ c ∈ ((("a" : Str) ++ toString (y : Int)) : Str).cps.toList, c ∈ ALN.cps.toList := by decide +kernel
  exact this x h
theorem ask_len {x : Nat} (h : x < 40) : ("a" : Str).length + (toString (x : Int) : Str).length ≤ sizeLine := by
  have h1 := (ask_ok x h).1
  rw [app_len] at h1
  have : (sizeLine : Nat) = 16777216 := sizeLine_eq
  omega
end SL

/-! the ring by how far ahead -/
namespace SL
open PySem PySem.Spec PyProof.Rows L2
def farM (spot size : Int) (m : Int × Str) : Int × Str := ((m.1 - spot) % size, m.2)
theorem marksOf_bd {sv : List (Str × Int)} {size : Int} (hs : 0 < size) {m : Int × Str} (h : m ∈ marksOf sv size) : 0 ≤ m.1 ∧ m.1 < size := by
  unfold marksOf at h
  obtain ⟨p, _, h2⟩ := List.mem_flatMap.mp h
  obtain ⟨t, _, rfl⟩ := List.mem_map.mp h2
  exact ⟨Int.emod_nonneg _ (Int.ne_of_gt hs), Int.emod_lt_of_pos _ hs⟩
theorem far_hi {a spot size : Int} (h1 : spot ≤ a) (h2 : a < size) (h3 : 0 ≤ spot) : (a - spot) % size = a - spot := Int.emod_eq_of_lt (by omega) (by omega)
theorem far_lo {a spot size : Int} (h1 : a < spot) (h2 : 0 ≤ a) (h3 : spot < size) : (a - spot) % size = a - spot + size := by
  rw [← Int.add_emod_right]
  exact Int.emod_eq_of_lt (by omega) (by omega)
theorem leM_shift {a b : Int × Str} {x y : Int} (h : leM a b = true) (hx : x - a.1 = y - b.1) : leM (x, a.2) (y, b.2) = true := by
  unfold leM at *
  simp only [Bool.or_eq_true, Bool.and_eq_true, decide_eq_true_eq] at *
  rcases h with h | ⟨h, h'⟩
  · exact .inl (by omega)
  · exact .inr ⟨by omega, h'⟩
theorem far_ring {sv : List (Str × Int)} {size spot : Int} (hs : 0 < size) (h0 : 0 ≤ spot) (h1 : spot < size) : (ringA (marksA sv size) spot).map (farM spot size) = ((marksOf sv size).map (farM spot size)).mergeSort leM := by
  have hb : ∀ m ∈ marksA sv size, 0 ≤ m.1 ∧ m.1 < size := fun m hm => marksOf_bd hs ((List.mergeSort_perm _ _).mem_iff.mp hm)
  have hp : (marksA sv size).Pairwise (fun a b => leM a b = true) := List.pairwise_mergeSort leM_trans leM_total _
  refine List.Perm.eq_of_pairwise (le := fun a b => leM a b = true) (fun a b _ _ h1 h2 => leM_anti h1 h2) ?_ (List.pairwise_mergeSort leM_trans leM_total _) ?_
  · unfold ringA
    rw [List.map_append, List.pairwise_append]
    refine ⟨?_, ?_, ?_⟩
    · rw [List.pairwise_map]
      refine List.Pairwise.imp_of_mem (fun {a b} ha hb' hab => ?_) (hp.filter _)
      obtain ⟨a1, a2⟩ := List.mem_filter.mp ha
      obtain ⟨b1, b2⟩ := List.mem_filter.mp hb'
      have a2 := of_decide_eq_true a2
      have b2 := of_decide_eq_true b2
      have a3 := hb a a1
      have b3 := hb b b1
      unfold farM
      rw [far_hi a2 a3.2 h0, far_hi b2 b3.2 h0]
      exact leM_shift hab (by omega)
    · rw [List.pairwise_map]
      refine List.Pairwise.imp_of_mem (fun {a b} ha hb' hab => ?_) (hp.filter _)
      obtain ⟨a1, a2⟩ := List.mem_filter.mp ha
      obtain ⟨b1, b2⟩ := List.mem_filter.mp hb'
      have a2 := of_decide_eq_true a2
      have b2 := of_decide_eq_true b2
      have a3 := hb a a1
      have b3 := hb b b1
      unfold farM
      rw [far_lo a2 a3.1 h1, far_lo b2 b3.1 h1]
      exact leM_shift hab (by omega)
    · intro x hx y hy
      obtain ⟨a, ha, rfl⟩ := List.mem_map.mp hx
      obtain ⟨b, hb', rfl⟩ := List.mem_map.mp hy
      obtain ⟨a1, a2⟩ := List.mem_filter.mp ha
      obtain ⟨b1, b2⟩ := List.mem_filter.mp hb'
      have a2 := of_decide_eq_true a2
      have b2 := of_decide_eq_true b2
      have a3 := hb a a1
      have b3 := hb b b1
      unfold farM leM
      rw [far_hi a2 a3.2 h0, far_lo b2 b3.1 h1]
      simp only [Bool.or_eq_true, Bool.and_eq_true, decide_eq_true_eq]
      exact .inl (by omega)
  · refine List.Perm.trans ?_ (List.mergeSort_perm _ _).symm
    refine List.Perm.map _ ?_
    unfold ringA
    have e : (fun m : Int × Str => decide (m.1 < spot)) = fun m => !decide (m.1 ≥ spot) := by
      funext m
      by_cases h : m.1 < spot
      · have : ¬ m.1 ≥ spot := by omega
        simp [h]
      · have : m.1 ≥ spot := by omega
        simp [h, this]
    rw [e]
    exact (List.filter_append_perm _ _).trans (List.mergeSort_perm _ _)
theorem row_far {sv : List (Str × Int)} {size spot : Int} (hs : 0 < size) (h0 : 0 ≤ spot) (h1 : spot < size) : rowA (marksA sv size) spot = metA ((((marksOf sv size).map (farM spot size)).mergeSort leM).map (·.2)) := by
  rw [← far_ring hs h0 h1, List.map_map]
  rfl
end SL

/-! who is led, by the row of the free ones alone -/
namespace SL
open PySem PySem.Spec PyProof.Rows L2
theorem some_flt (xs : List Sx) (zone : Str) (extra : Int) : ∃ P : Sx → Bool, someA xs zone extra = xs.filter P := by
  unfold someA
  split
  · unfold nearA freeA
    rw [List.filter_filter, List.filter_filter]
    exact ⟨_, rfl⟩
  · unfold freeA
    rw [List.filter_filter]
    exact ⟨_, rfl⟩
theorem name_inj {xs : List Sx} (hn : (xs.map (·.1)).Nodup) {p q : Sx} (hp : p ∈ xs) (hq : q ∈ xs) (e : p.1 = q.1) : p = q := by
  induction xs with
  | nil => exact nomatch hp
  | cons x xs ih =>
    rw [List.map_cons, List.nodup_cons] at hn
    rcases List.mem_cons.mp hp with h1 | h1 <;> rcases List.mem_cons.mp hq with h2 | h2
    · rw [h1, h2]
    · exact absurd (List.mem_map.mpr ⟨q, h2, by rw [← e, h1]⟩) hn.1
    · exact absurd (List.mem_map.mpr ⟨p, h1, by rw [e, h2]⟩) hn.1
    · exact ih hn.2 h1 h2
theorem one_name {xs : List Sx} (hn : (xs.map (·.1)).Nodup) {p : Sx} (hp : p ∈ xs) : (xs.filter fun q => decide (q.1 = p.1)) = [p] := by
  induction xs with
  | nil => exact nomatch hp
  | cons x xs ih =>
    have hn' := hn
    rw [List.map_cons, List.nodup_cons] at hn'
    by_cases e : x.1 = p.1
    · have hx := name_inj hn (List.mem_cons_self ..) hp e
      rw [List.filter_cons_of_pos (by simp [e]), hx]
      congr 1
      refine List.filter_eq_nil_iff.mpr fun q hq h => ?_
      have h2 := of_decide_eq_true h
      exact hn'.1 (List.mem_map.mpr ⟨q, hq, by rw [h2, e]⟩)
    · rw [List.filter_cons_of_neg (by simp [e])]
      rcases List.mem_cons.mp hp with h1 | h1
      · exact absurd (by rw [h1]) e
      · exact ih hn'.2 h1
theorem some_nd {xs : List Sx} {zone : Str} {extra : Int} (hn : (xs.map (·.1)).Nodup) : ((someA xs zone extra).map (·.1)).Nodup := by
  obtain ⟨P, e⟩ := some_flt xs zone extra
  rw [e]
  exact List.Nodup.sublist ((List.filter_sublist).map _) hn
theorem flt_named {xs : List Sx} {zone : Str} {extra : Int} (hn : (xs.map (·.1)).Nodup) : (xs.filter fun q => (lk (namedA (someA xs zone extra)) q.1).isSome) = someA xs zone extra := by
  obtain ⟨P, e⟩ := some_flt xs zone extra
  have h1 : ∀ q ∈ xs, (lk (namedA (someA xs zone extra)) q.1).isSome = P q := fun q hq => by
    rw [Bool.eq_iff_iff]
    constructor
    · intro h
      obtain ⟨p, hp⟩ := Option.isSome_iff_exists.mp h
      obtain ⟨h2, h3⟩ := named_mem _ hp
      rw [e] at h2
      have h4 := name_inj hn (List.mem_filter.mp h2).1 hq h3
      rw [← h4]
      exact (List.mem_filter.mp h2).2
    · intro h
      exact named_some (by rw [e]; exact List.mem_filter.mpr ⟨hq, h⟩)
  rw [List.filter_congr h1, ← e]
/-- the names met from a spot on, of some -/
def rowX (ys : List Sx) (spot size : Int) : List Str := metA ((((marksOf (svA ys) size).map (farM spot size)).mergeSort leM).map (·.2))
theorem met_row {xs : List Sx} {asker zone : Str} {size extra : Int} (hn : (xs.map (·.1)).Nodup) (hs : 0 < size) : metX xs asker zone size extra = (rowX (someA xs zone extra) (spotA asker 0 size) size).map (pickA (namedA (someA xs zone extra))) := by
  unfold metX rowX
  have e1 : (svA xs).filter (fun p => (lk (namedA (someA xs zone extra)) p.1).isSome) = svA (someA xs zone extra) := by
    unfold svA
    rw [List.filter_map]
    show List.map _ (xs.filter fun q => (lk (namedA (someA xs zone extra)) q.1).isSome) = _
    rw [flt_named hn]
  rw [row_filter, e1, row_far (spot := spotA asker 0 size) hs (Int.emod_nonneg _ (Int.ne_of_gt hs)) (Int.emod_lt_of_pos _ hs)]
theorem mem_rowX {ys : List Sx} {spot size : Int} (h : sxOk ys) {n : Str} : n ∈ rowX ys spot size ↔ n ∈ ys.map (·.1) := by
  unfold rowX
  rw [mem_metA, ((List.mergeSort_perm _ leM).map (·.2)).mem_iff, List.map_map]
  have := mem_marksA (n := n) (size := size) (svA_ok h)
  unfold marksA at this
  rw [((List.mergeSort_perm _ leM).map (·.2)).mem_iff] at this
  show n ∈ (marksOf (svA ys) size).map (·.2) ↔ _
  rw [this]
  unfold svA
  rw [List.map_map]
  rfl
theorem pick_one {ys : List Sx} (hn : (ys.map (·.1)).Nodup) {n : Str} (h : n ∈ ys.map (·.1)) : (ys.filter fun q => decide (q.1 = n)) = [pickA (namedA ys) n] := by
  obtain ⟨p, hp, rfl⟩ := List.mem_map.mp h
  obtain ⟨q, hq⟩ := Option.isSome_iff_exists.mp (named_some hp)
  have h2 := named_mem _ hq
  have e : q = p := name_inj hn h2.1 hp h2.2
  unfold pickA
  rw [hq, e]
  exact one_name hn hp
end SL

namespace SL
open PySem PySem.Spec PyProof.Rows L2
section
variable {ι : Type} {X : ι → Cx} {K : PySem.W.Frag} {E : Ent} {B : Hp} {Γ Γ' : Slots} {R R' : List Res} {rest : List Stmt} {D : Ends} {pos : Pos}
theorem blk_cont (h : ∀ S σ H, Same B S → SR K E Γ R S σ H → D.ct σ H) : Blk X K E B Γ R (.Continue pos :: rest) D :=
  ⟨tSeq tCont _, fun i => pss_cons ps_continue pss_of_never, fun S σ H b q => h S σ H b q⟩
theorem blk_contD {R2 : List Res} (hR : R = R' ++ R2) (hw : All2 WkS Γ' Γ) (hD : D.ct = Pst K E B Γ' R') : Blk X K E B Γ R (.Continue pos :: rest) D :=
  blk_cont fun S σ H b q => by rw [hD]; exact ⟨S, b, wkD hR hw S σ H q⟩
/-- a op b, a something new known by what holds of it -/
theorem ev_binNN {ν μ : Type} {a b : Expr} {op : Operator} {Rn R2' : ν → List Res} {sn : ν → Sl} {s2 : ν → Sl} {R3 : ν × μ → List Res} {s3 : ν × μ → Sl} (ha : EvN X K E Γ R a Rn sn) (hb : ∀ n, EvJ X K E Γ (Rn n) b (R2' n) (s2 n)) (ho : ∀ n, BinRN X K E (binaryOp op) (R2' n) (sn n) (s2 n) (fun m => R3 (n, m)) (fun m => s3 (n, m))) : EvN X K E Γ R (.BinOp a op b pos) R3 s3 := by
  obtain ⟨ta, a1, a2⟩ := ha
  have hb' := fun n => Classical.choose_spec (hb n)
  have ho' := fun n => Classical.choose_spec (ho n)
  refine ⟨tOp (fun x y H Q => ∃ n, Classical.choose (ho n) x y H Q) ta _, fun i => pe_op (fun pins s σ H x y v u Q I rx ry ⟨n, h⟩ => (ho' n).1 i pins s σ H x y v u Q I rx ry h) (a1 i) (pe_any fun n => (hb' n).1 i), fun S σ H Q q k => ?_⟩
  refine a2 S σ H _ q fun n x S1 H1 e1 q1 r1 => ⟨n, (hb' n).2 S1 σ H1 _ q1 fun y S2 H2 e2 q2 r2 => ⟨n, ?_⟩⟩
  exact (ho' n).2 Γ S2 σ H2 x y Q q2 ((sn n).mono e2 r1) r2 fun m v S3 H3 e3 q3 r3 => k (n, m) v S3 H3 ((e1.trans e2).trans e3) q3 r3
end
end SL

/-! who is free and who is chosen: by the live ones alone, whatever their order -/
namespace SL
open PySem PySem.Spec PyProof.Rows L2
theorem sum_perm {l l' : List Int} (h : l.Perm l') : l.sum = l'.sum := by
  induction h with
  | nil => rfl
  | cons x _ ih => rw [List.sum_cons, List.sum_cons, ih]
  | swap x y l => simp only [List.sum_cons]; omega
  | trans _ _ h1 h2 => exact h1.trans h2
theorem free_perm {xs ys : List Sx} {extra : Int} (h : (xs.filter liveA).Perm (ys.filter liveA)) : (freeA xs extra).Perm (freeA ys extra) := by
  have e1 : manyA xs = manyA ys := by
    unfold manyA
    rw [sum_perm (h.map _)]
  have e2 : wholeA xs = wholeA ys := sum_perm (h.map _)
  unfold freeA
  rw [e1, e2]
  exact h.filter _
theorem free_eq {xs ys : List Sx} {extra : Int} (h : xs.filter liveA = ys.filter liveA) : freeA xs extra = freeA ys extra := by
  unfold freeA manyA wholeA
  rw [h]
theorem some_perm {xs ys : List Sx} {zone : Str} {extra : Int} (h : (freeA xs extra).Perm (freeA ys extra)) : (someA xs zone extra).Perm (someA ys zone extra) := by
  have hn : (nearA (freeA xs extra) zone).Perm (nearA (freeA ys extra) zone) := h.filter _
  unfold someA
  rw [hn.length_eq]
  split
  · exact hn
  · exact h
theorem marksOf_perm {sv sw : List (Str × Int)} {size : Int} (h : sv.Perm sw) : (marksOf sv size).Perm (marksOf sw size) := by
  unfold marksOf
  exact h.flatMap_right _
theorem rowX_perm {ys zs : List Sx} {spot size : Int} (h : ys.Perm zs) : rowX ys spot size = rowX zs spot size := by
  unfold rowX
  have e : (((marksOf (svA ys) size).map (farM spot size)).mergeSort leM) = (((marksOf (svA zs) size).map (farM spot size)).mergeSort leM) :=
    List.Perm.eq_of_pairwise (le := fun a b => leM a b = true) (fun a b _ _ h1 h2 => leM_anti h1 h2) (List.pairwise_mergeSort leM_trans leM_total _) (List.pairwise_mergeSort leM_trans leM_total _) (((List.mergeSort_perm _ _).trans ((marksOf_perm (h.map _)).map _)).trans (List.mergeSort_perm _ _).symm)
  rw [e]
theorem pick_perm {ys zs : List Sx} (hy : (ys.map (·.1)).Nodup) (h : ys.Perm zs) {n : Str} (hn : n ∈ ys.map (·.1)) : pickA (namedA ys) n = pickA (namedA zs) n := by
  have hz : (zs.map (·.1)).Nodup := (h.map _).nodup_iff.mp hy
  have e1 := pick_one hy hn
  have e2 := pick_one hz ((h.map _).mem_iff.mp hn)
  have p := h.filter (fun q => decide (q.1 = n))
  rw [e1, e2] at p
  have := List.perm_singleton.mp p
  exact (List.cons.inj this).1
theorem chosen_perm {xs ys : List Sx} {asker zone : Str} {size extra : Int} (hok : sxOk xs) (hx : (xs.map (·.1)).Nodup) (hy : (ys.map (·.1)).Nodup) (hs : 0 < size) (h : (freeA xs extra).Perm (freeA ys extra)) : chosenA xs asker zone size extra = chosenA ys asker zone size extra := by
  unfold chosenA
  rw [met_row hx hs, met_row hy hs]
  have hp := some_perm (zone := zone) h
  rw [← rowX_perm hp]
  congr 1
  exact List.map_congr_left fun n hn => pick_perm (some_nd hx) hp ((mem_rowX fun p hp => hok p (free_sub (some_sub hp))).mp hn)
theorem chosen_of {xs : List Sx} {asker zone : Str} {size extra : Int} {x : Str} (h : chosenA xs asker zone size extra = some x) : ∃ p ∈ someA xs zone extra, p.1 = x := by
  unfold chosenA at h
  have hs : ∀ p ∈ metX xs asker zone size extra, p ∈ someA xs zone extra := fun p hp => met_sub hp
  generalize metX xs asker zone size extra = l at h hs
  match l, h, hs with
  | [], h, _ => exact nomatch h
  | [a], h, hs => exact ⟨a, hs a (List.mem_cons_self ..), Option.some.inj h⟩
  | a :: b :: r, h, hs =>
    have h' : (lighterA a b).1 = x := Option.some.inj h
    unfold lighterA at h'
    split at h'
    · exact ⟨b, hs b (List.mem_cons_of_mem _ (List.mem_cons_self ..)), h'⟩
    · exact ⟨a, hs a (List.mem_cons_self ..), h'⟩
theorem chosen_none {xs : List Sx} {asker zone : Str} {size extra : Int} (hok : sxOk xs) (hx : (xs.map (·.1)).Nodup) (hs : 0 < size) (h : chosenA xs asker zone size extra = none) : freeA xs extra = [] := by
  unfold chosenA at h
  have h1 : metX xs asker zone size extra = [] := by
    generalize metX xs asker zone size extra = l at h
    cases l with
    | nil => rfl
    | cons a r =>
      cases r with
      | nil => exact nomatch h
      | cons b r => exact nomatch h
  rw [met_row hx hs] at h1
  have h2 := List.map_eq_nil_iff.mp h1
  have h3 : someA xs zone extra = [] := List.eq_nil_iff_forall_not_mem.mpr fun p hp => by
    have := (mem_rowX (spot := spotA asker 0 size) (size := size) (n := p.1) fun p hp => hok p (free_sub (some_sub hp))).mpr (List.mem_map.mpr ⟨p, hp, rfl⟩)
    rw [h2] at this
    exact nomatch this
  unfold someA at h3
  split at h3
  · rename_i hc
    rw [h3] at hc
    simp at hc
  · exact h3
theorem near_in {xs : List Sx} {asker zone : Str} {size extra : Int} {x : Str} (hx : (xs.map (·.1)).Nodup) (h : chosenA xs asker zone size extra = some x) :
    let near := xs.filter fun p => decide (p.1 ∈ (freeA xs extra).map (·.1)) && decide (p.2.1 = zone)
    (near = [] → x ∈ (freeA xs extra).map (·.1)) ∧ (near ≠ [] → x ∈ near.map (·.1)) := by
  intro near
  obtain ⟨p, hp, rfl⟩ := chosen_of h
  have hpf := some_sub hp
  refine ⟨fun _ => List.mem_map.mpr ⟨p, hpf, rfl⟩, fun hn => ?_⟩
  obtain ⟨q, hq⟩ := List.exists_mem_of_ne_nil _ hn
  obtain ⟨q1, q2⟩ := List.mem_filter.mp hq
  obtain ⟨q3, q4⟩ := Bool.and_eq_true_iff.mp q2
  have q3 := of_decide_eq_true q3
  obtain ⟨r, hr, e⟩ := List.mem_map.mp q3
  have e2 := name_inj hx (free_sub hr) q1 e
  rw [e2] at hr
  have hq5 : q ∈ nearA (freeA xs extra) zone := List.mem_filter.mpr ⟨hr, q4⟩
  have hlen : 0 < (nearA (freeA xs extra) zone).length := List.length_pos_of_mem hq5
  unfold someA at hp
  rw [if_pos (decide_eq_true (show ((nearA (freeA xs extra) zone).length : Int) > 0 by omega))] at hp
  obtain ⟨p1, p2⟩ := List.mem_filter.mp hp
  exact List.mem_map.mpr ⟨p, List.mem_filter.mpr ⟨free_sub hpf, by rw [p2, Bool.and_true]; exact decide_eq_true (List.mem_map.mpr ⟨p, hpf, rfl⟩)⟩, rfl⟩
end SL

/-! arguments of which a law is told -/
namespace SL
open PySem PySem.Spec PyProof.Rows L2
section
variable {ι : Type} (X : ι → Cx) (K : PySem.W.Frag) (E : Ent)
def ArN {ν : Type} (Γ : Slots) (R : List Res) (es : List Expr) (R' : ν → List Res) (ss : ν → List Sl) : Prop :=
  ∃ t : TA, (∀ i, PA (X i) es t) ∧ ∀ S σ H (Q : List V → Hp → Prop), SR K E Γ R S σ H → (∀ n, KontA K E Γ (R' n) σ S (ss n) Q) → t σ H Q
end
section
variable {ι : Type} {X : ι → Cx} {K : PySem.W.Frag} {E : Ent} {Γ : Slots} {R R1 : List Res} {e : Expr} {es : List Expr} {pos : Pos} {s : Sl}
theorem pa_any {Y : Cx} {ν : Type} {u : ν → TA} (h : ∀ n, PA Y es (u n)) : PA Y es (fun σ H Q => ∃ n, u n σ H Q) := ⟨fun pos pins s σ H Q I ⟨n, q⟩ => (h n).run pos pins s σ H Q I q⟩
theorem arn_of {ss : List Sl} (h : ArJ X K E Γ R es R1 ss) : ArN X K E Γ R es (fun _ : Unit => R1) (fun _ => ss) := let ⟨t, h1, h2⟩ := h; ⟨t, h1, fun S σ H Q q k => h2 S σ H Q q (k ())⟩
theorem arn_nil : ArN X K E Γ R [] (fun _ : Unit => R) (fun _ => []) := arn_of ar_nil
theorem evn_of (h : EvJ X K E Γ R e R1 s) : EvN X K E Γ R e (fun _ : Unit => R1) (fun _ => s) := let ⟨t, h1, h2⟩ := h; ⟨t, h1, fun S σ H Q q k => h2 S σ H Q q (k ())⟩
theorem arn_cons {ν μ : Type} {Rn : ν → List Res} {sn : ν → Sl} {Rm : ν → μ → List Res} {ss : ν → μ → List Sl} (h : EvN X K E Γ R e Rn sn) (hr : ∀ n, ArN X K E Γ (Rn n) es (Rm n) (ss n)) (hs : ∀ i, starEach (e :: es) (X i).env = (false, eval e (X i).env) :: starEach es (X i).env := by exact fun _ => rfl) :
    ArN X K E Γ R (e :: es) (fun p : ν × μ => Rm p.1 p.2) (fun p => sn p.1 :: ss p.1 p.2) := by
  obtain ⟨t, h1, h2⟩ := h
  have hr' := fun n => Classical.choose_spec (hr n)
  refine ⟨tCons t _, fun i => pa_cons (h1 i) (pa_any fun n => (hr' n).1 i) (hs i), fun S σ H Q q k => h2 S σ H _ q fun n v S1 H1 e1 q1 r1 => ⟨n, (hr' n).2 S1 σ H1 _ q1 fun m vs S2 H2 e2 q2 r2 => ?_⟩⟩
  exact k (n, m) (v :: vs) S2 H2 (e1.trans e2) q2 (.cons ((sn n).mono e2 r1) r2)
/-- one whose kind is known ahead -/
theorem arn_consJ {μ : Type} {Rm : μ → List Res} {ss : μ → List Sl} (h : EvJ X K E Γ R e R1 s) (hr : ArN X K E Γ R1 es Rm ss) (hs : ∀ i, starEach (e :: es) (X i).env = (false, eval e (X i).env) :: starEach es (X i).env := by exact fun _ => rfl) :
    ArN X K E Γ R (e :: es) Rm (fun m => s :: ss m) := by
  obtain ⟨t, h1, h2⟩ := h
  obtain ⟨u, g1, g2⟩ := hr
  refine ⟨tCons t u, fun i => pa_cons (h1 i) (g1 i) (hs i), fun S σ H Q q k => h2 S σ H _ q fun v S1 H1 e1 q1 r1 => g2 S1 σ H1 _ q1 fun m vs S2 H2 e2 q2 r2 => ?_⟩
  exact k m (v :: vs) S2 H2 (e1.trans e2) q2 (.cons (s.mono e2 r1) r2)
theorem el_lstN {ν : Type} {Rn : ν → List Res} {ss : ν → List Sl} {ds : ν → List PyData} (h : ArN X K E Γ R es Rn ss) (hd : ∀ n, AreD (ss n) (ds n)) (hz : ∀ n, (ss n).length ≤ 1000 := by exact fun _ => Nat.le_of_ble_eq_true rfl) :
    EvN X K E Γ R (.List es pos) (fun n : ν × Addr => Rn n.1 ++ [rL n.2 (ds n.1)]) (fun n => sv (.ref n.2)) := by
  obtain ⟨t, h1, h2⟩ := h
  refine ⟨tLst t, fun i => pe_lst (h1 i), fun S σ H Q q k => h2 S σ H _ q fun n vs S1 H1 e1 q1 r1 => ⟨Nat.le_of_lt (small1000 (by rw [← r1.len]; exact hz n)), fun p hp => ?_⟩⟩
  exact k (n, p) (.ref p) S1 _ e1 (q1.mine hp ⟨vs, rfl, (hd n).all r1⟩) rfl
theorem ev_tupN {ν : Type} {Rn : ν → List Res} {ss : ν → List Sl} {k1 : Nat} (h : ArN X K E Γ R es Rn ss) (hz : ∀ n, (ss n).length ≤ 1000 := by exact fun _ => Nat.le_of_ble_eq_true rfl) : EvN X K E Γ R (.Tuple es k1 pos) Rn (fun n => stup (ss n)) := by
  obtain ⟨t, h1, h2⟩ := h
  refine ⟨tTup t, fun i => pe_tup (h1 i), fun S σ H Q q k => h2 S σ H _ q fun n vs S1 H1 e1 q1 r1 => ⟨Nat.le_of_lt (small1000 (by rw [← r1.len]; exact hz n)), fun p hp => ?_⟩⟩
  refine k n (.ref p) (upd S1 p (.tup vs)) _ (e1.trans (same_new (q1.free hp))) (q1.grow hp) ⟨p, vs, rfl, SqT.of upd_same, r1.imp fun s v h => s.mono (same_new (q1.free hp)) h⟩
section
variable {P : Program} {w : World} {mg : Str → Option Value} {base : Heap} {A : Around} {N : List Str} {s2 : Sl} {x : Str}
theorem br_inLs (F : Fam X P w K mg base A N) {ns : List Str} (h : LV K R s2 (ns.map .str)) : BinR X K E (compareOp .In) R (dS x) s2 (dB (decide (x ∈ ns))) := by
  have h1 := br_inL F (E := E) (x := x) h (by rw [List.all_map]; exact List.all_eq_true.mpr fun _ _ => rfl)
  rw [dstr_strs] at h1
  exact h1
theorem br_ninLs (F : Fam X P w K mg base A N) {ns : List Str} (h : LV K R s2 (ns.map .str)) : BinR X K E (compareOp .NotIn) R (dS x) s2 (dB (!decide (x ∈ ns))) := by
  have h1 := br_ninL F (E := E) (x := x) h (by rw [List.all_map]; exact List.all_eq_true.mpr fun _ _ => rfl)
  rw [dstr_strs] at h1
  exact h1
end
/-- a new list of which a law is told becomes lasting -/
theorem frzM {μ : Type} {ds : μ → List PyData} (h : EvN X K E Γ R e (fun n : Addr × μ => R1 ++ [rL n.1 (ds n.2)]) (fun n => sv (.ref n.1))) : EvN X K E Γ R e (fun _ : μ => R1) (fun m => sd (.list (ds m))) := by
  obtain ⟨t, h1, h2⟩ := h
  refine ⟨t, h1, fun S σ H Q q k => h2 S σ H Q q fun n v S1 H1 e1 q1 r1 => ?_⟩
  cases (show v = .ref n.1 from r1)
  obtain ⟨S2, e2, q2, hd⟩ := q1.freeze
  exact k n.2 _ S2 H1 (e1.trans e2) q2 hd
end
end SL

/-! exceptions: defs that raise, try -/
namespace SL
open PySem PySem.Spec PyProof.Rows L2
/-- a def's promise to raise: under pre, from arguments of which as is said and the cells Rs, an exception of the class C, the cells Rn -/
def spR (K : PySem.W.Frag) {θ : Type} (pre : θ → Prop) (as : θ → List Sl) (Rs : θ → List Res) (C : Addr) (Rn : θ → List Res) : Sp := fun vs H _ EE =>
  ∃ (i : θ) (S0 : Hp) (Os : List Hp), pre i ∧ Same S0 H ∧ All2 (fun (s : Sl) v => s.r K S0 v) (as i) vs ∧ Own K S0 H (Rs i) Os ∧
    ∀ S' H' Os', (∀ a o, H a = some o → ¬ InOs Os a → H' a = some o) → Same S' H' → Same S0 S' → (∀ a, S' a ≠ none → S0 a ≠ none ∨ H a = none ∨ InOs Os a) →
      Own K S' H' (Rn i) Os' → (∀ O ∈ Os', ∀ a, O a ≠ none → InOs Os a ∨ H a = none) → EE (.ref C) none H'
/-- the context of a def's body that lets exceptions out -/
abbrev FXR (P : Program) (w : World) (K : PySem.W.Frag) (mg : Str → Option Value) (base : Heap) (N : List Str) (qual : Str) (st : Stmt) (f : Addr) (cdv : Value) (A : Around) (outer : List Env) (s : Shared) (H : Hp) (E : XK) : Unit → Cx :=
  fun _ => cxOf (L2N.CX P w) P w K mg base N qual (defScope st) f cdv A outer s H E
section
variable {ι : Type} {X : ι → Cx} {K : PySem.W.Frag} {E : Ent} {B : Hp} {Γ Γ' : Slots} {R R' R1 R2' R3 : List Res} {a b c e : Expr} {es : List Expr} {pos p' : Pos} {s s1 s2 s3 : Sl}
  {P : Program} {w : World} {mg : Str → Option Value} {base : Heap} {A : Around} {N ps : List Str} {rest sts : List Stmt} {D : Ends} {S S' H H' : Hp} {σ σ' : L2.St} {f : Str} {C : Addr} {W : WX}
theorem fam_fxr {qual : Str} {st : Stmt} {f : Addr} {cdv : Value} {A : Around} {outer : List Env} {s : Shared} {H : Hp} {E : XK} (Sc : FnScope N ps (defScope st)) : Fam (FXR P w K mg base N qual st f cdv A outer s H E) P w K mg base (A.deeper (envOfC qual (defScope st) s.heap.objs.size f cdv)) N :=
  ⟨fun _ => rfl, fun _ => rfl, fun _ => rfl, fun _ => rfl, fun _ => rfl, fun _ => rfl, fun _ => rfl, Sc.nd⟩
/-- a def whose body may let exceptions out that have no context -/
theorem okN {x qual : Str} {st : Stmt} {f : Addr} {fd : FuncData} {k : Nat} {sp : Sp} (F : Fun K x qual st f fd) (Sc : FnScope N ps (defScope st)) (hl : ∀ vs H Q E, sp vs H Q E → vs.length = ps.length)
    (hb : ∀ (cdv : Value) (A : Around) (outer : List Env) (s : Shared) (H : Hp) (vs : List V) (Q : VK) (E : XK), Room k (A.deeper (envOfC qual (defScope st) s.heap.objs.size f cdv)) → sp vs H Q E → ∃ t, PSs (FXR P w K mg base N qual st f cdv A outer s H E ()) (defBody st) t ∧ t { nx := fun _ H' => Q .non H', rt := Q } (L2.start N vs) H) :
    FnOk P w K mg base (L2N.CX P w) (k + 1) f fd ps sp := by
  obtain ⟨_, _, _, _, _, _, cdv, _, _, e, lk, hc⟩ := F.ex
  subst e
  exact fn_of lk hc Sc hl fun A outer s H vs Q E hr hs => hb cdv A outer s H vs Q E hr hs
/-- what a raise asks at a def's end -/
def ExcOk (K : PySem.W.Frag) (E : Ent) (C : Addr) (Rn : List Res) (W : WX) : Prop := ∀ Γ S σ H, SR K E Γ Rn S σ H → W (.ref C) none σ H
theorem fn_okR {θ : Type} {pre : θ → Prop} {as : θ → List Sl} {Rs Rn : θ → List Res} {x qual : Str} {st : Stmt} {f C : Addr} {fd : FuncData} {k : Nat} (F : Fun K x qual st f fd) (Sc : FnScope N ps (defScope st)) (hlen : ∀ i, (as i).length = ps.length)
    (hb : ∀ (i : θ) (cdv : Value) (A : Around) (outer : List Env) (s : Shared) (H S0 : Hp) (A0 : Addr → Prop) (E : XK) (W : WX) (Q : VK), Room k (A.deeper (envOfC qual (defScope st) s.heap.objs.size f cdv)) → Fam (FXR P w K mg base N qual st f cdv A outer s H E) P w K mg base (A.deeper (envOfC qual (defScope st) s.heap.objs.size f cdv)) N → pre i →
      (∀ i, L2N.Takes (FXR P w K mg base N qual st f cdv A outer s H E i) W) → (∀ i, PassesOwn (model (FXR P w K mg base N qual st f cdv A outer s H E i).prog (FXR P w K mg base N qual st f cdv A outer s H E i).w) (FXR P w K mg base N qual st f cdv A outer s H E i).A (FXR P w K mg base N qual st f cdv A outer s H E i).env (FXR P w K mg base N qual st f cdv A outer s H E i).xe) →
      ExcOk K ⟨H, S0, A0⟩ C (Rn i) W →
      Blk (FXR P w K mg base N qual st f cdv A outer s H E) K ⟨H, S0, A0⟩ S0 ((as i).map some ++ List.replicate (N.length - (as i).length) none) (Rs i) (defBody st) { nx := fun _ H' => Q .non H', rt := Q }) :
    FnOk P w K mg base (L2N.CX P w) (k + 1) f fd ps (spR K pre as Rs C Rn) := by
  refine okN F Sc (fun vs H Q E ⟨i, S0, Os, h1, h2, h3, h4, h5⟩ => by rw [← h3.len]; exact hlen i) (fun cdv A outer s H vs Q E hr ⟨i, S0, Os, h1, h2, h3, h4, h5⟩ => ?_)
  obtain ⟨t, t1, t2⟩ := hb i cdv A outer s H S0 (InOs Os) E (fun cls d _ H => E cls d H) Q hr (fam_fxr Sc) h1 (fun _ => L2N.takes_of rfl rfl rfl rfl) (fun _ => passes_of rfl) (fun Γ S σ H' q => by
    obtain ⟨Os', g1, g2⟩ := q.own
    exact h5 S H' Os' q.fr q.sub q.ext q.new g1 (fun O hO a ha => g2 O hO a ha))
  refine ⟨t, t1 (), t2 S0 (L2.start N vs) H (Same.refl _) ⟨h2, Same.refl _, fun _ _ e _ => e, fun a ha => .inl ha, ⟨Os, h4, fun O hO a ha => .inl ⟨O, hO, ha⟩⟩, ?_⟩⟩
  unfold L2.start
  rw [h3.len]
  exact (slots_args h3).app (replicate_slots _)
/-! ### the class of an exception -/
structure XcT (K : PySem.W.Frag) (mg : Str → Option Value) (x : Str) (C : Addr) : Prop where
  g : mg x = some (.ref C)
  ex : PySem.W.excIn K C [.type "ValueError", .type "Exception", .type "BaseException", .type "object"] "ValueError.__new__" = true
  kp : PySem.W.keepIn K (.ref C) = true
  sb : PySem.W.subIn K (.ref C) (.type "BaseException") = some true
  ty : PySem.W.typeIn K (.ref C) = some (.type "type")
  hd : PySem.W.hasDictIn K C = true
/-- raise X("..") -/
theorem blk_raise {x m : Str} {j : Nat} {q1 q2 q3 q4 : Pos} (F : Fam X P w K mg base A N) (T : XcT K mg x C) (tk : ∀ i, L2N.Takes (X i) W) (h : ∀ S σ H, SR K E Γ R S σ H → W (.ref C) none σ H)
    (hg : ∀ i, Gl (X i) x := by exact fun _ => rfl) (hdb : (x == ("__debug__" : Str)) = false := by decide) (hcm : ∀ i, (X i).calm = true := by exact fun _ => rfl) :
    Blk X K E B Γ R (.Raise (some (.Call (.Name x q1) [.Constant (.str m) j q2] [] q3)) none q4 :: rest) D := by
  refine ⟨tSeq _ _, fun i => pss_cons (L2N.ps_raise (hcm i) (tk i) (L2N.pmk_own PySem.F.excBase_ValueError (by rw [F.fK i]; exact T.ex) (by rw [F.fmg i]; exact T.g) (by rw [F.fK i]; exact T.kp) (raises_own (by rw [F.fK i]; exact T.sb) (by rw [F.fK i]; exact T.ty)) (hg i) hdb)) pss_of_never, fun S σ H b q => ?_⟩
  exact h S σ H q
/-! ### expressions that raise -/
variable (X) (K) (E) (W) in
def EvR (Γ : Slots) (R : List Res) (e : Expr) (C : Addr) (R' : List Res) : Prop :=
  ∃ t : TE, (∀ i, PE (X i) e t) ∧ ∀ S σ H (Q : VK), SR K E Γ R S σ H → (∀ S' H', Same S S' → SR K E Γ R' S' σ H' → W (.ref C) none σ H') → t σ H Q
variable (X) (K) (E) (W) in
def ArR (Γ : Slots) (R : List Res) (es : List Expr) (C : Addr) (R' : List Res) : Prop :=
  ∃ t : TA, (∀ i, PA (X i) es t) ∧ ∀ S σ H (Q : List V → Hp → Prop), SR K E Γ R S σ H → (∀ S' H', Same S S' → SR K E Γ R' S' σ H' → W (.ref C) none σ H') → t σ H Q
theorem arr_here (h : EvR X K E W Γ R e C R') (ha : ArJ X K E Γ R es R3 ss) (hs : ∀ i, starEach (e :: es) (X i).env = (false, eval e (X i).env) :: starEach es (X i).env := by exact fun _ => rfl) : ArR X K E W Γ R (e :: es) C R' := by
  obtain ⟨t, h1, h2⟩ := h
  obtain ⟨u, g1, _⟩ := ha
  exact ⟨tCons t u, fun i => pa_cons (h1 i) (g1 i) (hs i), fun S σ H Q q k => h2 S σ H _ q k⟩
theorem arr_last (h : EvR X K E W Γ R e C R') (hs : ∀ i, starEach [e] (X i).env = (false, eval e (X i).env) :: starEach [] (X i).env := by exact fun _ => rfl) : ArR X K E W Γ R [e] C R' := arr_here h (ar_nil (K := K) (E := E) (Γ := Γ) (R := R)) hs
theorem arr_cons (h : EvJ X K E Γ R e R1 s) (hr : ArR X K E W Γ R1 es C R') (hs : ∀ i, starEach (e :: es) (X i).env = (false, eval e (X i).env) :: starEach es (X i).env := by exact fun _ => rfl) : ArR X K E W Γ R (e :: es) C R' := by
  obtain ⟨t, h1, h2⟩ := h
  obtain ⟨u, g1, g2⟩ := hr
  exact ⟨tCons t u, fun i => pa_cons (h1 i) (g1 i) (hs i), fun S σ H Q q k => h2 S σ H _ q fun v S1 H1 e1 q1 r1 => g2 S1 σ H1 _ q1 fun S2 H2 e2 q2 => k S2 H2 (e1.trans e2) q2⟩
theorem evr_tup {k1 : Nat} (h : ArR X K E W Γ R es C R') : EvR X K E W Γ R (.Tuple es k1 pos) C R' := by
  obtain ⟨t, h1, h2⟩ := h
  exact ⟨tTup t, fun i => pe_tup (h1 i), fun S σ H Q q k => h2 S σ H _ q k⟩
theorem blk_exprR (h : EvR X K E W Γ R e C R') (hW : ∀ S σ H, SR K E Γ R' S σ H → W (.ref C) none σ H) (hs : ∀ i, swapsWith e none pos.line (X i).env = pure false := by exact fun _ => rfl) : Blk X K E B Γ R (.Expr e pos :: rest) D := by
  obtain ⟨t, h1, h2⟩ := h
  exact ⟨tSeq (tDrop t) _, fun i => pss_cons (ps_expr (h1 i) (hs i)) pss_of_never, fun S σ H b q => h2 S σ H _ q fun S1 H1 e1 q1 => hW S1 σ H1 q1⟩
theorem blk_retR (h : EvR X K E W Γ R e C R') (hW : ∀ S σ H, SR K E Γ R' S σ H → W (.ref C) none σ H) : Blk X K E B Γ R (.Return (some e) pos :: rest) D := by
  obtain ⟨t, h1, h2⟩ := h
  exact ⟨tSeq (tRet t) _, fun i => pss_cons (ps_ret (h1 i)) pss_of_never, fun S σ H b q => h2 S σ H _ q fun S1 H1 e1 q1 => hW S1 σ H1 q1⟩
theorem blk_asgR (F : Fam X P w K mg base A N) (k : Nat) {x : Str} {pos' : Pos} (h : EvR X K E W Γ R e C R') (hW : ∀ S σ H, SR K E Γ R' S σ H → W (.ref C) none σ H) (hi : N[k]? = some x := by rfl) (hx : ∀ i, Loc (X i).env.scope x := by first | exact fun _ => Or.inl rfl | exact fun _ => Or.inr rfl)
    (hs : ∀ i, swapsWith e (some (.Name x pos')) pos.line (X i).env = pure false := by exact fun _ => rfl) (hf : ∀ i, (X i).fn x = true ∨ (X i).env.scope.names.lookup x = some .local := by first | exact fun _ => Or.inl rfl | exact fun _ => Or.inr rfl) : Blk X K E B Γ R (.Assign [.Name x pos'] e pos :: rest) D := by
  obtain ⟨t, h1, h2⟩ := h
  exact ⟨tSeq (tAsg t (gName k)) _, fun i => pss_cons (ps_set (by rw [F.fN i]; exact F.nd) (by rw [F.fN i]; exact hi) (hx i) (h1 i) (hs i) (hf i)) pss_of_never, fun S σ H b q => h2 S σ H _ q fun S1 H1 e1 q1 => hW S1 σ H1 q1⟩
/-! ### try -/
theorem SR.setNone (q : SR K E Γ R S σ H) (k : Nat) : SR K E (Γ.set k none) R S (σ.set k none) H :=
  ⟨q.sub, q.ext, q.fr, q.new, q.own, All2.set (fun s' e => nomatch e) k q.slots⟩
/-- the contexts of a try's body, by what is wished of an exception -/
abbrev XT (X : ι → Cx) (W : WX) : { j : ι × List (Addr × Obj) × (Value → Shared → Prop) // L2N.Takes ((X j.1).tr j.2.1 j.2.2) W ∧ PassesOwn (model (X j.1).prog (X j.1).w) (X j.1).A (X j.1).env j.2.2 } → Cx := fun j => (X j.1.1).tr j.1.2.1 j.1.2.2
theorem fam_try (F : Fam X P w K mg base A N) : Fam (XT X W) P w K mg base A N :=
  ⟨fun j => F.fP j.1.1, fun j => F.fw j.1.1, fun j => F.fK j.1.1, fun j => F.fmg j.1.1, fun j => F.fbase j.1.1, fun j => F.fA j.1.1, fun j => F.fN j.1.1, F.nd⟩
theorem tk_try : ∀ j, L2N.Takes (XT X W j) W := fun j => j.2.1
/-- the contexts of an except suite -/
abbrev XS (X : ι → Cx) (C a : Addr) : { j : ι × Obj × List (Addr × Obj) // L2N.Zn (.ref C) none j.2.1 ∧ ∃ vs, j.2.1.data = .fields vs } → Cx := fun j => (X j.1.1).suite a ((a, j.1.2.1) :: j.1.2.2)
theorem fam_suite (F : Fam X P w K mg base A N) (a : Addr) : Fam (XS X C a) P w K mg base (A.mark (some (.ref a))) N :=
  ⟨fun j => F.fP j.1.1, fun j => F.fw j.1.1, fun j => F.fK j.1.1, fun j => F.fmg j.1.1, fun j => F.fbase j.1.1, fun j => by show (X j.1.1).A.mark _ = _; rw [F.fA j.1.1], fun j => F.fN j.1.1, F.nd⟩
/-- the contexts of an except suite of which less is known -/
abbrev XO (X : ι → Cx) (C a : Addr) : { j : ι × Obj × List (Addr × Obj) // Zc (.ref C) none j.2.1 ∧ ∃ vs, j.2.1.data = .fields vs } → Cx := fun j => (X j.1.1).suite a ((a, j.1.2.1) :: j.1.2.2)
theorem fam_suiteO (F : Fam X P w K mg base A N) (a : Addr) : Fam (XO X C a) P w K mg base (A.mark (some (.ref a))) N :=
  ⟨fun j => F.fP j.1.1, fun j => F.fw j.1.1, fun j => F.fK j.1.1, fun j => F.fmg j.1.1, fun j => F.fbase j.1.1, fun j => by show (X j.1.1).A.mark _ = _; rw [F.fA j.1.1], fun j => F.fN j.1.1, F.nd⟩
theorem tracedW {h B : Heap} {a : Addr} {Z Z' : Obj → Prop} {fl : Value} (z : ∀ o, Z o → Z' o) (x : HandSPX.TracedZ h B a Z fl) : HandSPX.TracedZ h B a Z' fl :=
  let ⟨oe, vs, T, oT, ts, he, hz, r⟩ := x; ⟨oe, vs, T, oT, ts, he, z _ hz, r⟩
theorem skyW {B : Heap} {l : List Env} {a : Addr} {Z Z' : Obj → Prop} {L : Addr} {h : Heap} (z : ∀ o, Z o → Z' o) : Sky B l a Z L h → Sky B l a Z' L h
  | .inl ⟨h1, h2, h3, oe, vs, he, hz, r⟩ => .inl ⟨h1, h2, h3, oe, vs, he, z _ hz, r⟩
  | .inr (.inl ⟨h1, h2, h3, h4⟩) => .inr (.inl ⟨h1, h2, h3, tracedW z h4⟩)
  | .inr (.inr ⟨h1, h2, h3, h4⟩) => .inr (.inr ⟨h1, h2, h3, tracedW z h4⟩)
/-- who takes any exception takes one without a context -/
theorem takesN {X : Cx} {W : WX} (t : L2.Takes X W) : L2N.Takes X W := fun u s' ⟨a, B, sI, pins, σ, H, cls, d, e, I, nb, up, sky, r⟩ =>
  t u s' ⟨a, B, sI, pins, σ, H, cls, d, e, I, nb, up, skyW (fun _ z => L2N.Zn.zc z) sky, r⟩
theorem takes0N {X : Cx} : L2N.Takes X (fun _ _ _ _ => False) := takesN takes0
/-- the end of an except suite with a name -/
theorem blk_endS (k : Nat) (hR : R = R' ++ R2') (h : All2 WkS Γ' (Γ.set k none)) (hD : D.nx = fun σ' H' => Pst K E B Γ' R' (σ'.set k none) H') : Blk X K E B Γ R [] D :=
  blk_nil fun S σ H b q => by
    rw [hD]
    exact ⟨S, b, wkD hR h S _ H (q.setNone k)⟩
variable (X) (K) (E) in
/-- a try's body raises C -/
def BodyR (Γ : Slots) (R : List Res) (body : List Stmt) (C : Addr) (R' : List Res) : Prop := ∀ W : WX, ∃ t : TS, (∀ j, PSs (XT X W j) body t) ∧ ∀ S σ H D, SR K E Γ R S σ H → (∀ S' H', Same S S' → SR K E Γ R' S' σ H' → W (.ref C) none σ H') → t D σ H
theorem body_asg (F : Fam X P w K mg base A N) (k : Nat) {x : Str} {pos' : Pos} (h : ∀ W, Fam (XT X W) P w K mg base A N → (∀ j, L2N.Takes (XT X W j) W) → EvR (XT X W) K E W Γ R e C R') (hi : N[k]? = some x := by rfl) (hx : ∀ i, Loc (X i).env.scope x := by first | exact fun _ => Or.inl rfl | exact fun _ => Or.inr rfl)
    (hs : ∀ i, swapsWith e (some (.Name x pos')) pos.line (X i).env = pure false := by exact fun _ => rfl) (hf : ∀ i, (X i).fn x = true ∨ (X i).env.scope.names.lookup x = some .local := by first | exact fun _ => Or.inl rfl | exact fun _ => Or.inr rfl) : BodyR X K E Γ R [.Assign [.Name x pos'] e pos] C R' := by
  intro W
  obtain ⟨t, h1, h2⟩ := h W (fam_try F) tk_try
  exact ⟨_, fun j => pss_one (ps_set (by rw [(fam_try (W := W) F).fN j]; exact F.nd) (by rw [(fam_try (W := W) F).fN j]; exact hi) (hx j.1.1) (h1 j) (hs j.1.1) (hf j.1.1)), fun S σ H D q k => h2 S σ H _ q k⟩
theorem body_expr (F : Fam X P w K mg base A N) (h : ∀ W, Fam (XT X W) P w K mg base A N → (∀ j, L2N.Takes (XT X W j) W) → EvR (XT X W) K E W Γ R e C R') (hs : ∀ i, swapsWith e none pos.line (X i).env = pure false := by exact fun _ => rfl) : BodyR X K E Γ R [.Expr e pos] C R' := by
  intro W
  obtain ⟨t, h1, h2⟩ := h W (fam_try F) tk_try
  exact ⟨_, fun j => pss_one (ps_expr (h1 j) (hs j.1.1)), fun S σ H D q k => h2 S σ H _ q k⟩
/-- try: .. except x as n: .., the body raises C -/
theorem blk_tryAs (F : Fam X P w K mg base A N) (k : Nat) {x n : Str} {cx : Value} {body suite : List Stmt} {b₀ : Stmt} {np pos' : Pos} (hb : BodyR X K E Γ R body C R1) (hm : mg x = some cx) (hx : PySem.W.exmOne K (.ref C) cx = some true)
    (hsu : ∀ a, Fam (XS X C a) P w K mg base (A.mark (some (.ref a))) N → Blk (XS X C a) K E B (Γ.set k (some (sv (.ref a)))) R1 (b₀ :: suite) { nx := fun σ' H' => Pst K E B Γ' R' (σ'.set k none) H', rt := D.rt, bk := fun σ' H' => D.bk (σ'.set k none) H', ct := fun σ' H' => D.ct (σ'.set k none) H' })
    (hr : Blk X K E B Γ' R' rest D) (hi : N[k]? = some n := by rfl) (hln : ∀ i, (X i).env.kindOf n = some .local := by exact fun _ => rfl)
    (hst : ∀ i, (X i).stack = (X i).env :: (X i).outer := by exact fun _ => rfl) (hf : ∀ i, (X i).env.frame = some (X i).env.locals := by exact fun _ => rfl) (hg : ∀ i, Gl (X i) x := by exact fun _ => rfl) (hdb : (x == ("__debug__" : Str)) = false := by decide) :
    Blk X K E B Γ R (.Try body [.ExceptHandler (some (.Name x np)) (some n) (b₀ :: suite) pos'] [] [] pos :: rest) D := by
  have hb' := fun W => Classical.choose_spec (hb W)
  have hs' := fun a => Classical.choose_spec (hsu a (fam_suite F a))
  obtain ⟨u, g1, g2⟩ := hr
  let ts : Addr → Value → Option Addr → TS := fun a cls d D σ H => (cls = .ref C ∧ d = none) ∧ Classical.choose (hsu a (fam_suite F a)) D σ H
  have hts : ∀ i (a : Addr) (oe : Obj) (cls : Value) (d : Option Addr) (pn : List (Addr × Obj)), L2N.Zn cls d oe → (∃ vs, oe.data = .fields vs) → PSs ((X i).suite a ((a, oe) :: pn)) (b₀ :: suite) (ts a cls d) := fun i a oe cls d pn hz hfl =>
    ⟨fun pins s σ H D I ⟨⟨e1, e2⟩, q⟩ => by
      subst e1 e2
      exact ((hs' a).1 ⟨(i, oe, pn), hz, hfl⟩).run pins s σ H D I q⟩
  have hps : ∀ i, PS (X i) (.Try body [.ExceptHandler (some (.Name x np)) (some n) (b₀ :: suite) pos'] [] [] pos) (fun D σ H => Classical.choose (hb (wAs K cx k ts (fun _ _ _ _ => False) D)) D σ H) := fun i => by
    have h := L2N.ps_try_as (i := k) (np := np) (pos := pos) (pos' := pos') (tb := fun W => Classical.choose (hb W)) (hst i) (hf i) (by rw [F.fN i]; exact F.nd) (by rw [F.fN i]; exact hi) (hln i) ⟨hg i, hdb, .inl (by rw [F.fmg i]; exact hm)⟩ takes0N (fun W pn xe tk ps => (hb' W).1 ⟨(i, pn, xe), tk, ps⟩) (hts i)
    rw [F.fK i] at h
    exact h
  refine ⟨Evl.tCut _ u, fun i => Evl.pss_cut (hps i) (g1 i), fun S σ H b q => ⟨Pst K E B Γ' R', ?_, fun σ' H' ⟨S2, e2, q2⟩ => g2 S2 σ' H' e2 q2⟩⟩
  refine (hb' _).2 S σ H _ q fun S' H' e' q' => ⟨true, hx, fun _ a ha => ⟨⟨rfl, rfl⟩, ?_⟩, fun z => nomatch z⟩
  exact (hs' a).2 S' _ H' (b.trans e') (q'.setSlot k rfl)
/-- try: .. except x: .., the body raises C -/
theorem blk_tryOnly (F : Fam X P w K mg base A N) {x : Str} {cx : Value} {body suite : List Stmt} {b₀ : Stmt} {np pos' : Pos} (hb : BodyR X K E Γ R body C R1) (hm : mg x = some cx) (hx : PySem.W.exmOne K (.ref C) cx = some true)
    (hsu : ∀ a, Fam (XO X C a) P w K mg base (A.mark (some (.ref a))) N → Blk (XO X C a) K E B Γ R1 (b₀ :: suite) { nx := Pst K E B Γ' R', rt := D.rt, bk := D.bk, ct := D.ct })
    (hr : Blk X K E B Γ' R' rest D)
    (hst : ∀ i, (X i).stack = (X i).env :: (X i).outer := by exact fun _ => rfl) (hf : ∀ i, (X i).env.frame = some (X i).env.locals := by exact fun _ => rfl) (hg : ∀ i, Gl (X i) x := by exact fun _ => rfl) (hdb : (x == ("__debug__" : Str)) = false := by decide) :
    Blk X K E B Γ R (.Try body [.ExceptHandler (some (.Name x np)) none (b₀ :: suite) pos'] [] [] pos :: rest) D := by
  have hb' := fun W => Classical.choose_spec (hb W)
  have hs' := fun a => Classical.choose_spec (hsu a (fam_suiteO F a))
  obtain ⟨u, g1, g2⟩ := hr
  let ts : Addr → Value → Option Addr → TS := fun a cls d D σ H => (cls = .ref C ∧ d = none) ∧ Classical.choose (hsu a (fam_suiteO F a)) D σ H
  have hts : ∀ i (a : Addr) (oe : Obj) (cls : Value) (d : Option Addr) (pn : List (Addr × Obj)), Zc cls d oe → (∃ vs, oe.data = .fields vs) → PSs ((X i).suite a ((a, oe) :: pn)) (b₀ :: suite) (ts a cls d) := fun i a oe cls d pn hz hfl =>
    ⟨fun pins s σ H D I ⟨⟨e1, e2⟩, q⟩ => by
      subst e1 e2
      exact ((hs' a).1 ⟨(i, oe, pn), hz, hfl⟩).run pins s σ H D I q⟩
  have hps : ∀ i, PS (X i) (.Try body [.ExceptHandler (some (.Name x np)) none (b₀ :: suite) pos'] [] [] pos) (fun D σ H => Classical.choose (hb (wOnly K cx ts (fun _ _ _ _ => False) D)) D σ H) := fun i => by
    have h := ps_try_only (np := np) (pos := pos) (pos' := pos') (tb := fun W => Classical.choose (hb W)) (hst i) (hf i) ⟨hg i, hdb, .inl (by rw [F.fmg i]; exact hm)⟩ takes0 (fun W pn xe tk ps => (hb' W).1 ⟨(i, pn, xe), takesN tk, ps⟩) (hts i)
    rw [F.fK i] at h
    exact h
  refine ⟨Evl.tCut _ u, fun i => Evl.pss_cut (hps i) (g1 i), fun S σ H b q => ⟨Pst K E B Γ' R', ?_, fun σ' H' ⟨S2, e2, q2⟩ => g2 S2 σ' H' e2 q2⟩⟩
  refine (hb' _).2 S σ H _ q fun S' H' e' q' => ⟨true, hx, fun _ a ha => ⟨⟨rfl, rfl⟩, ?_⟩, fun z => nomatch z⟩
  exact (hs' a).2 S' _ H' (b.trans e') q'
/-- a try whose body raises nothing -/
theorem blk_tryNo {body : List Stmt} {h₀ : ExceptHandler} {hs : List ExceptHandler} (hb : Blk X K E B Γ R body { nx := Pst K E B Γ' R', rt := D.rt, bk := D.bk, ct := D.ct }) (hr : Blk X K E B Γ' R' rest D) (hn : ∀ i e s, ¬ (X i).xe e s := by exact fun _ _ _ h => h) :
    Blk X K E B Γ R (.Try body (h₀ :: hs) [] [] pos :: rest) D := by
  obtain ⟨t, h1, h2⟩ := hb
  obtain ⟨u, g1, g2⟩ := hr
  refine ⟨Evl.tCut (tThru t tNext) u, fun i => Evl.pss_cut (ps_try_never (hn i) (h1 i) pss_nil) (g1 i), fun S σ H b q => ⟨Pst K E B Γ' R', ?_, fun σ' H' ⟨S2, e2, q2⟩ => g2 S2 σ' H' e2 q2⟩⟩
  exact h2 S σ H b q
end
end SL

/-! calls to which cells of one's own are handed -/
namespace SL
open PySem PySem.Spec PyProof.Rows L2
theorem all2_app_l {α β : Type} {F : α → β → Prop} : ∀ {as as' : List α} {bs : List β}, All2 F (as ++ as') bs → ∃ b1 b2, bs = b1 ++ b2 ∧ All2 F as b1 ∧ All2 F as' b2
  | [], _, bs, h => ⟨[], bs, rfl, .nil, h⟩
  | a :: as, as', _, .cons p r => by
    obtain ⟨b1, b2, e, h1, h2⟩ := all2_app_l (as := as) r
    exact ⟨_ :: b1, b2, by rw [e]; rfl, .cons p h1, h2⟩
section
variable {ι : Type} {X : ι → Cx} {K : PySem.W.Frag} {E : Ent} {B : Hp} {Γ Γ' : Slots} {R R' R1 R2' R3 Ra Rb Rs : List Res} {a b c e o : Expr} {es : List Expr} {pos p' apos : Pos} {s s1 s2 s3 : Sl} {ss : List Sl}
  {P : Program} {w : World} {mg : Str → Option Value} {base : Heap} {A : Around} {N ps : List Str} {rest sts : List Stmt} {D : Ends} {S S' H H' : Hp} {σ σ' : L2.St} {f : Str} {C : Addr} {W : WX}
theorem SR.give (q : SR K E Γ (Ra ++ Rs ++ Rb) S σ H) : ∃ Os, Own K S H Rs Os ∧ ∀ (Rn : List Res) (S' H' : Hp) (Os' : List Hp), (∀ a o, H a = some o → ¬ InOs Os a → H' a = some o) → Same S' H' → Same S S' → (∀ a, S' a ≠ none → S a ≠ none ∨ H a = none ∨ InOs Os a) →
    Own K S' H' Rn Os' → (∀ O ∈ Os', ∀ a, O a ≠ none → InOs Os a ∨ H a = none) → SR K E Γ (Ra ++ Rn ++ Rb) S' σ H' := by
  obtain ⟨Oall, ⟨h1, h2⟩, h3⟩ := q.own
  obtain ⟨Oab, Ob, rfl, h1ab, h1b⟩ := all2_app_l h1
  obtain ⟨Oa, Os, rfl, h1a, h1s⟩ := all2_app_l h1ab
  obtain ⟨d12, d3, d4⟩ := List.pairwise_append.mp h2
  obtain ⟨d1, d2, d5⟩ := List.pairwise_append.mp d12
  refine ⟨Os, ⟨h1s, d2⟩, fun Rn S' H' On hfr hsub hext hnew hown hO => ?_⟩
  have inA : ∀ x, InOs Os x → E.A0 x ∨ E.H0 x = none := fun x ⟨O, hO, hx⟩ => h3 O (by simp [hO]) x hx
  have freshA : ∀ x, H x = none → E.A0 x ∨ E.H0 x = none := fun x z => by
    by_cases n : E.A0 x
    · exact .inl n
    · cases e0 : E.H0 x with
      | none => exact .inr rfl
      | some u => rw [q.fr x u e0 n] at z; cases z
  -- what stands beside
  have beside : ∀ O, (∀ O' ∈ Os, ∀ a, O a ≠ none → O' a = none) → Same O H → (∀ a, O a ≠ none → S a = none) → Same O H' ∧ ∀ a, O a ≠ none → S' a = none := fun O hdis hsame hS => by
    have nin : ∀ x, O x ≠ none → ¬ InOs Os x := fun x hx ⟨O', hO', hx'⟩ => hx' (hdis O' hO' x hx)
    refine ⟨fun x u e => hfr x u (hsame x u e) (nin x (by rw [e]; exact fun z => nomatch z)), fun x hx => ?_⟩
    cases e2 : S' x with
    | none => rfl
    | some u =>
      rcases hnew x (by rw [e2]; exact fun z => nomatch z) with z | z | z
      · exact absurd (hS x hx) z
      · cases e3 : O x with
        | none => exact absurd e3 hx
        | some u' => rw [hsame x u' e3] at z; cases z
      · exact absurd z (nin x hx)
  have apart : ∀ O O', (∀ O' ∈ Os, ∀ a, O a ≠ none → O' a = none) → Same O H → O' ∈ On → ∀ a, O a ≠ none → O' a = none := fun O O' hdis hsame hO' x hx => by
    cases e2 : O' x with
    | none => rfl
    | some u =>
      rcases hO O' hO' x (by rw [e2]; exact fun z => nomatch z) with ⟨O2, hO2, z⟩ | z
      · exact absurd (hdis O2 hO2 x hx) z
      · cases e3 : O x with
        | none => exact absurd e3 hx
        | some u' => rw [hsame x u' e3] at z; cases z
  have disA : ∀ O ∈ Oa, ∀ O' ∈ Os, ∀ a, O a ≠ none → O' a = none := fun O hO O' hO' => d5 O hO O' hO'
  have disB : ∀ O ∈ Ob, ∀ O' ∈ Os, ∀ a, O a ≠ none → O' a = none := fun O hO O' hO' => disj_symm (d4 O' (by simp [hO']) O hO)
  refine ⟨hsub, q.ext.trans hext, fun x u e n => hfr x u (q.fr x u e n) (fun z => by rcases inA x z with z | z; exact n z; rw [z] at e; cases e), fun x hx => ?_, ⟨Oa ++ On ++ Ob, ⟨?_, ?_⟩, ?_⟩, slots_mono hext q.slots⟩
  · rcases hnew x hx with z | z | z
    · exact q.new x z
    · rcases freshA x z with z | z
      · exact .inr (.inr z)
      · exact .inr (.inl z)
    · rcases inA x z with z | z
      · exact .inr (.inr z)
      · exact .inr (.inl z)
  · refine All2.app (All2.app ?_ hown.all) ?_
    · have : ∀ {Rx : List Res} {Ox : List Hp}, All2 (fun (ρ : Res) O => ρ.r K S O ∧ Same O H ∧ ∀ a, O a ≠ none → S a = none) Rx Ox → (∀ O ∈ Ox, ∀ O' ∈ Os, ∀ a, O a ≠ none → O' a = none) → All2 (fun (ρ : Res) O => ρ.r K S' O ∧ Same O H' ∧ ∀ a, O a ≠ none → S' a = none) Rx Ox := by
        intro Rx Ox hh
        induction hh with
        | nil => intro _; exact .nil
        | cons p _ ih => intro hd; exact .cons ⟨Res.mono _ hext p.1, beside _ (hd _ (List.mem_cons_self ..)) p.2.1 p.2.2⟩ (ih fun O hO => hd O (List.mem_cons_of_mem _ hO))
      exact this h1a disA
    · have : ∀ {Rx : List Res} {Ox : List Hp}, All2 (fun (ρ : Res) O => ρ.r K S O ∧ Same O H ∧ ∀ a, O a ≠ none → S a = none) Rx Ox → (∀ O ∈ Ox, ∀ O' ∈ Os, ∀ a, O a ≠ none → O' a = none) → All2 (fun (ρ : Res) O => ρ.r K S' O ∧ Same O H' ∧ ∀ a, O a ≠ none → S' a = none) Rx Ox := by
        intro Rx Ox hh
        induction hh with
        | nil => intro _; exact .nil
        | cons p _ ih => intro hd; exact .cons ⟨Res.mono _ hext p.1, beside _ (hd _ (List.mem_cons_self ..)) p.2.1 p.2.2⟩ (ih fun O hO => hd O (List.mem_cons_of_mem _ hO))
      exact this h1b disB
  · have sA : ∀ O ∈ Oa, Same O H := fun O hO => let ⟨_, _, g⟩ := all2_mem h1a hO; g.2.1
    have sB : ∀ O ∈ Ob, Same O H := fun O hO => let ⟨_, _, g⟩ := all2_mem h1b hO; g.2.1
    refine List.pairwise_append.mpr ⟨List.pairwise_append.mpr ⟨d1, hown.dis, fun O hO' O' hO'' => apart O O' (disA O hO') (sA O hO') hO''⟩, d3, fun O hO' O' hO'' => ?_⟩
    rcases List.mem_append.mp hO' with z | z
    · exact d4 O (by simp [z]) O' hO''
    · exact disj_symm (apart O' O (disB O' hO'') (sB O' hO'') z)
  · intro O hO' x hx
    rcases List.mem_append.mp hO' with z | z
    · rcases List.mem_append.mp z with z | z
      · exact h3 O (by simp [z]) x hx
      · rcases hO O z x hx with z | z
        · exact inA x z
        · exact freshA x z
    · exact h3 O (by simp [z]) x hx
/-- f(e, ..), cells handed -/
theorem ev_callG {θ : Type} {ν : θ → Type} {pre : θ → Prop} {as : θ → List Sl} {Rs : θ → List Res} {Rn : ∀ i, ν i → List Res} {res : ∀ i, ν i → Sl} (F : Fam X P w K mg base A N) (C : Cal P w K mg base A f ps (spJ K pre as Rs Rn res)) (i : θ) (Ra Rb : List Res) (ha : ArJ X K E Γ R (e :: es) R1 (as i)) (hR : R1 = Ra ++ Rs i ++ Rb) (hpre : pre i)
    (hg : ∀ i, Gl (X i) f := by exact fun _ => rfl) (he : ∀ i, starEach (e :: es) (X i).env = (false, eval e (X i).env) :: starEach es (X i).env := by exact fun _ => rfl) (hpl : ∀ i, (backTo pos (starEach es (X i).env)).any (·.1) = false := by exact fun _ => rfl) (hdb : (f == ("__debug__" : Str)) = false := by decide) :
    EvN X K E Γ R (.Call (.Name f p') (e :: es) [] pos) (fun n => Ra ++ Rn i n ++ Rb) (res i) := by
  obtain ⟨CX, k, fa, fd, hF, hr, hm, hk, hb, hx⟩ := C.ex
  obtain ⟨t, a1, a2⟩ := ha
  subst hR
  refine ⟨tCall (spJ K pre as Rs Rn res) [] E0 t, fun j => ?_, fun S σ H Q q kk => a2 S σ H _ q fun vs S1 H1 e1 q1 r1 => ?_⟩
  · refine pe_call (CX := CX) (k := k) (f := fa) (fd := fd) (ps := ps) (ds := []) ?_ (by rw [F.fA j]; exact hr) (hg j) (by rw [F.fmg j]; exact hm) (by rw [F.fK j]; exact hk) (by rw [F.fK j]; exact hb) .nil (hx _ (F.fP j) (F.fw j)) (a1 j) hdb (he j) (hpl j)
    rw [F.fP j, F.fw j, F.fK j, F.fmg j, F.fbase j]
    exact hF
  · rw [List.append_nil]
    obtain ⟨Os, hOs, hgive⟩ := q1.give
    exact ⟨i, S1, Os, hpre, q1.sub, r1, hOs, fun n v S' H' Os' hfr hsub hext hnew hown hO hres => kk n v S' H' (e1.trans hext) (hgive _ S' H' Os' hfr hsub hext hnew hown hO) hres⟩
/-- a def that may raise, to be called -/
structure CalR (P : Program) (w : World) (K : PySem.W.Frag) (mg : Str → Option Value) (base : Heap) (A : Around) (f : Str) (ps : List Str) (sp : Sp) : Prop where
  ex : ∃ (k : Nat) (fa : Addr) (fd : FuncData), FnOk P w K mg base (L2N.CX P w) k fa fd ps sp ∧ Room k A ∧ mg f = some (.ref fa) ∧ PySem.W.keepIn K (.ref fa) = true ∧ Binds K fd ps []
structure DefR (P : Program) (w : World) (K : PySem.W.Frag) (mg : Str → Option Value) (base : Heap) (f : Str) (ps : List Str) (k : Nat) (sp : Sp) : Prop where
  ex : ∃ (fa : Addr) (fd : FuncData), FnOk P w K mg base (L2N.CX P w) k fa fd ps sp ∧ mg f = some (.ref fa) ∧ PySem.W.keepIn K (.ref fa) = true ∧ Binds K fd ps []
theorem DefR.cal {k m : Nat} {sp : Sp} (d : DefR P w K mg base f ps k sp) (hr : Room m A) (hk : k ≤ m := by decide) : CalR P w K mg base A f ps sp :=
  let ⟨fa, fd, h1, h2, h3, h4⟩ := d.ex; ⟨k, fa, fd, h1, hr.mono hk, h2, h3, h4⟩
theorem evr_callG {θ : Type} {pre : θ → Prop} {as : θ → List Sl} {Rs Rn : θ → List Res} (F : Fam X P w K mg base A N) (Cl : CalR P w K mg base A f ps (spR K pre as Rs C Rn)) (tk : ∀ i, L2N.Takes (X i) W) (i : θ) (Ra Rb : List Res) (ha : ArJ X K E Γ R (e :: es) R1 (as i)) (hR : R1 = Ra ++ Rs i ++ Rb) (hpre : pre i)
    (hg : ∀ i, Gl (X i) f := by exact fun _ => rfl) (he : ∀ i, starEach (e :: es) (X i).env = (false, eval e (X i).env) :: starEach es (X i).env := by exact fun _ => rfl) (hpl : ∀ i, (backTo pos (starEach es (X i).env)).any (·.1) = false := by exact fun _ => rfl) (hdb : (f == ("__debug__" : Str)) = false := by decide) :
    EvR X K E W Γ R (.Call (.Name f p') (e :: es) [] pos) C (Ra ++ Rn i ++ Rb) := by
  obtain ⟨k, fa, fd, hF, hr, hm, hk, hb⟩ := Cl.ex
  obtain ⟨t, a1, a2⟩ := ha
  subst hR
  refine ⟨tCallS (spR K pre as Rs C Rn) (WE W) t, fun j => ?_, fun S σ H Q q kk => a2 S σ H _ q fun vs S1 H1 e1 q1 r1 => ?_⟩
  · refine pe_callS (CX := L2N.CX (X j).prog (X j).w) (k := k) (f := fa) (fd := fd) (ps := ps) ?_ (by rw [F.fA j]; exact hr) (hg j) (by rw [F.fmg j]; exact hm) (by rw [F.fK j]; exact hk) (by rw [F.fK j]; exact hb) (fun σ => L2N.passAt (tk j) σ) (a1 j) hdb (he j) (hpl j)
    rw [F.fP j, F.fw j, F.fK j, F.fmg j, F.fbase j]
    exact hF
  · obtain ⟨Os, hOs, hgive⟩ := q1.give
    exact ⟨i, S1, Os, hpre, q1.sub, r1, hOs, fun S' H' Os' hfr hsub hext hnew hown hO => kk S' H' (e1.trans hext) (hgive _ S' H' Os' hfr hsub hext hnew hown hO)⟩
end
end SL
namespace L2
open PySem PySem.Spec PyProof.Rows
/-- isinstance(e, (c1, c2, ..)), e the exception that the suite holds -/
def rIsET (K : PySem.W.Frag) (D a : Addr) : List V → Hp → VK → Prop := fun xs H Q => ∃ (tp : Addr) (cs : List V) (us : List Value) (b : Bool), xs = [.ref a, .ref tp] ∧ SqT K H tp cs ∧ Paired ClsV cs us ∧ PySem.W.kitAny K (.ref D) us = some b ∧ Q (.bl b) H
theorem call_isET {X : Cx} {a D : Addr} {oe : Obj} {pn : List (Addr × Obj)} (C : ExcC X.K D) (hz : Zc (.ref D) none oe) (hf : ∃ vs, oe.data = .fields vs) : CallR (X.suite a ((a, oe) :: pn)) (.builtin "isinstance") (rIsET X.K D a) := by
  intro pins s σ H xs us Q I r h
  obtain ⟨tp, cs, ws, b, rfl, hT, k, e, q⟩ := h
  obtain ⟨u1, u2, rfl, r1, r2⟩ := vals2 r
  cases (show u1 = Value.ref a from r1)
  cases (show u2 = Value.ref tp from r2)
  obtain ⟨hget, _⟩ := I.pin (a, oe) (List.mem_append.mpr (.inl List.mem_cons_self))
  obtain ⟨vs, hv⟩ := hf
  have J : PySem.W.InstAt s.heap a oe D none := by
    obtain ⟨oc, od, oda, osl⟩ := oe
    obtain ⟨h1, h2⟩ := hz
    dsimp only at h1 h2 hv
    subst h1 h2 hv
    exact ⟨hget, rfl, rfl, trivial⟩
  obtain ⟨its, rv, ⟨o, h1, h2, n, h3⟩, _⟩ := I.tuple hT
  have e3 := ClsV.all k rv
  subst e3
  obtain ⟨oc, od, dt, sl⟩ := o
  simp only at h2 h3
  subst h2 h3
  exact PySem.W.kia_tup (PySem.W.handS_kitx_exc C.hg C.hk C.hs C.hd C.ha C.hn C.ht C.hm) I.kIn J h1 e (fun z => nomatch z) fun tk => ⟨.bl b, H, I.kept (t' := tk) fun _ _ z => z, rfl, q⟩
end L2
namespace SL
open PySem PySem.Spec PyProof.Rows L2
section
variable {ι : Type} {X : ι → Cx} {K : PySem.W.Frag} {E : Ent} {B : Hp} {Γ Γ' : Slots} {R R' R1 : List Res} {e c : Expr} {es : List Expr} {pos p' : Pos} {s s1 s2 s3 : Sl}
  {P : Program} {w : World} {mg : Str → Option Value} {base : Heap} {A : Around} {N : List Str} {C a : Addr} {k : Bool}
/-- isinstance(e, c), e the exception that the suite holds -/
theorem ev_isE (F : Fam (XS X C a) P w K mg base A N) (T : ExcC K C) (hm : mg "isinstance" = none) {v : V} {u : Value} (he : EvJ (XS X C a) K E Γ R e R (sv (.ref a))) (hc : EvJ (XS X C a) K E Γ R c R (sv v)) (hv : ClsV v u) (hk : PySem.W.kitOne K (.ref C) u = some k)
    (hg : ∀ i, Gl (XS X C a i) "isinstance" := by exact fun _ => rfl) (hs1 : ∀ i, starEach [e, c] (XS X C a i).env = (false, eval e (XS X C a i).env) :: starEach [c] (XS X C a i).env := by exact fun _ => rfl)
    (hs2 : ∀ i, starEach [c] (XS X C a i).env = (false, eval c (XS X C a i).env) :: starEach [] (XS X C a i).env := by exact fun _ => rfl) (hpl : ∀ i, (backTo pos (starEach [c] (XS X C a i).env)).any (·.1) = false := by exact fun _ => rfl) :
    EvJ (XS X C a) K E Γ R (.Call (.Name "isinstance" p') [e, c] [] pos) R (dB k) := by
  refine ev_callB F hm PyProof.Rows.boot_isinstance (ar_cons he (ar_cons hc ar_nil hs2) hs1) ⟨rIsE K C a, fun n => ?_, fun Γ S σ H vs Q q r k' => ?_⟩ hg hs1 hpl
  · have := call_isE (X := X n.1.1) (a := a) (pn := n.1.2.2) (by rw [show (X n.1.1).K = K from F.fK n]; exact T) (L2N.Zn.zc n.2.1) n.2.2
    rw [show (X n.1.1).K = K from F.fK n] at this
    exact this
  · obtain ⟨x, y, rfl, r1, r2⟩ := all2_two r
    cases (show x = .ref a from r1)
    cases (show y = v from r2)
    exact ⟨v, u, k, rfl, fun u' hu => hv.eq hu, hk, k' _ S H (Same.refl _) q rfl⟩
theorem all2_svs {S : Hp} : ∀ {vs ws : List V}, All2 (fun (s : Sl) v => s.r K S v) (vs.map sv) ws → ws = vs
  | [], _, .nil => rfl
  | v :: vs, _, .cons a b => by
    cases (show _ = v from a)
    rw [all2_svs b]
/-- isinstance(e, (c1, ..)) -/
theorem ev_isET (F : Fam (XS X C a) P w K mg base A N) (T : ExcC K C) (hm : mg "isinstance" = none) {vs : List V} {us : List Value} (he : EvJ (XS X C a) K E Γ R e R (sv (.ref a))) (hc : EvJ (XS X C a) K E Γ R c R (stup (vs.map sv))) (hv : Paired ClsV vs us) (hk : PySem.W.kitAny K (.ref C) us = some k)
    (hg : ∀ i, Gl (XS X C a i) "isinstance" := by exact fun _ => rfl) (hs1 : ∀ i, starEach [e, c] (XS X C a i).env = (false, eval e (XS X C a i).env) :: starEach [c] (XS X C a i).env := by exact fun _ => rfl)
    (hs2 : ∀ i, starEach [c] (XS X C a i).env = (false, eval c (XS X C a i).env) :: starEach [] (XS X C a i).env := by exact fun _ => rfl) (hpl : ∀ i, (backTo pos (starEach [c] (XS X C a i).env)).any (·.1) = false := by exact fun _ => rfl) :
    EvJ (XS X C a) K E Γ R (.Call (.Name "isinstance" p') [e, c] [] pos) R (dB k) := by
  refine ev_callB F hm PyProof.Rows.boot_isinstance (ar_cons he (ar_cons hc ar_nil hs2) hs1) ⟨rIsET K C a, fun n => ?_, fun Γ S σ H ws Q q r k' => ?_⟩ hg hs1 hpl
  · have := call_isET (X := X n.1.1) (a := a) (pn := n.1.2.2) (by rw [show (X n.1.1).K = K from F.fK n]; exact T) (L2N.Zn.zc n.2.1) n.2.2
    rw [show (X n.1.1).K = K from F.fK n] at this
    exact this
  · obtain ⟨x, y, rfl, r1, r2⟩ := all2_two r
    cases (show x = .ref a from r1)
    obtain ⟨p, ws, rfl, h1, h2⟩ := r2
    have e := all2_svs h2
    subst e
    exact ⟨p, ws, us, k, rfl, same_t q.sub h1, hv, hk, k' _ S H (Same.refl _) q rfl⟩
end
end SL

/-! lists of new lists of one's own; min of a list of data -/
namespace SL
open PySem PySem.Spec PyProof.Rows L2
/-- min(xs) of data -/
def rMinD (K : PySem.W.Frag) : List V → Hp → VK → Prop := fun vs H Q => ∃ (a : Addr) (xs : List V) (d : PyData) (ds : List PyData) (D : V → PyData → Prop), vs = [.ref a] ∧ SqL K H a xs ∧ All2 D xs (d :: ds) ∧ (∀ x d, D x d → Dp K H x d) ∧ PySem.W.AlikeAll (d :: ds) ∧ PyData.depthAll (d :: ds) ≤ 32 ∧
  ∀ x, D x (PySem.W.minD d ds) → Q x H
theorem cr_minD {X : Cx} (hu : X.A.units + 64 < cLine) (hcm : X.calm = true) : CallR X (.builtin "min") (rMinD X.K) := by
  intro pins s σ H vs us Q I r h
  obtain ⟨a, xs, d, ds, D, rfl, hs, hx, hD, hal, hz, q⟩ := h
  obtain ⟨its, rv, hl, hlen⟩ := I.list hs
  obtain ⟨u, rfl, ru⟩ := vals1 r
  obtain rfl : u = Value.ref a := ru
  have hreads : ∀ {xs : List V} {es : List PyData} {ws : List Value}, All2 D xs es → Vals xs ws → ∃ as, ReadsAll s.heap ws es as := by
    intro xs es ws h1 h2
    induction h1 generalizing ws with
    | nil => cases h2; exact ⟨_, .nil⟩
    | cons p t ih =>
      cases h2 with
      | cons r rs =>
        obtain ⟨as, g1⟩ := ih rs
        obtain ⟨bs, g2⟩ := Dp.reads I _ _ _ (hD _ _ p) r
        exact ⟨_, .cons g2 g1⟩
  obtain ⟨as, hr⟩ := hreads hx rv
  refine PySem.W.min_list_data (I.ok.hd hcm) hl.isList (by simpa using hr) hal (by omega) fun i v h' tk bs hi hv hkp => ?_
  have hi' : its[i]? = some v := by simpa using hi
  obtain ⟨x, hxi, rx⟩ : ∃ x, xs[i]? = some x ∧ RelV x v := by
    have : ∀ {xs : List V} {ws : List Value} {i : Nat}, Vals xs ws → ws[i]? = some v → ∃ x, xs[i]? = some x ∧ RelV x v := by
      intro xs ws i h1
      induction h1 generalizing i with
      | nil => intro h; simp at h
      | cons r rs ih =>
        intro h
        cases i with
        | zero => simp at h; subst h; exact ⟨_, rfl, r⟩
        | succ i => obtain ⟨x, g1, g2⟩ := ih (i := i) (by simpa using h); exact ⟨x, by simpa using g1, g2⟩
    exact this rv hi'
  obtain ⟨e, he1, he2⟩ := hx.get hxi
  obtain ⟨cs, hc⟩ := Dp.reads I _ _ _ (hD _ _ he2) rx
  have hc' := PySem.W.reads_keeps hkp hc
  have hee : e = PySem.W.minD d ds := (Reads.unique hc' _ _ hv).1
  subst hee
  exact ⟨x, H, I.kept (t' := tk) fun b o e => hkp b o e, rx, q x he2⟩
section
variable {ι : Type} {X : ι → Cx} {K : PySem.W.Frag} {E : Ent} {B : Hp} {Γ Γ' : Slots} {R R' R1 R2' R3 : List Res} {a b c e o : Expr} {es : List Expr} {pos p' apos : Pos} {s s1 s2 s3 : Sl}
  {P : Program} {w : World} {mg : Str → Option Value} {base : Heap} {A : Around} {N : List Str} {rest sts : List Stmt} {D : Ends} {S S' H H' : Hp} {σ σ' : L2.St} {f : Str} {ps : List Str}
theorem cl_minD {k : Nat} (F : Fam X P w K mg base A N) (hr : Room k A) {d : PyData} {ds : List PyData} (h : LV K R s1 (d :: ds)) (hal : PySem.W.AlikeAll (d :: ds)) (hd : PyData.depthAll (d :: ds) ≤ 32) (hcm : ∀ i, (X i).calm = true := by exact fun _ => rfl) : ClJ X K E (.builtin "min") R [s1] (sd (PySem.W.minD d ds)) :=
  ⟨rMinD K, fun n => by rw [← F.fK n]; exact cr_minD (by rw [F.fA n]; exact hr.units) (hcm n), fun Γ S σ H vs Q q r k => by
    obtain ⟨v, rfl, r1⟩ := all2_one r
    obtain ⟨p, us, rfl, h1, h2⟩ := h E Γ S σ H v q r1
    exact ⟨p, us, d, ds, fun v d => Da K S v d, rfl, SqL.of h1, daAll_all2 h2, fun x d hx => da_dp (da_same q.sub hx), hal, hd, fun x hx => k x S H (Same.refl _) q hx⟩⟩
/-! ### less said of what is one's own -/
theorem SR.impR (q : SR K E Γ R S σ H) (h : All2 (fun (ρ ρ' : Res) => ∀ K S O, ρ.r K S O → ρ'.r K S O) R R') : SR K E Γ R' S σ H := by
  obtain ⟨Os, ⟨h1, h2⟩, h3⟩ := q.own
  refine ⟨q.sub, q.ext, q.fr, q.new, ⟨Os, ⟨?_, h2⟩, h3⟩, q.slots⟩
  clear h2 h3 q
  induction h generalizing Os with
  | nil => cases h1; exact .nil
  | cons p _ ih =>
    cases h1 with
    | cons a b => exact .cons ⟨p _ _ _ a.1, a.2⟩ (ih _ b)
theorem blk_impR (R' : List Res) (h : All2 (fun (ρ ρ' : Res) => ∀ K S O, ρ.r K S O → ρ'.r K S O) R R') (hr : Blk X K E B Γ R' sts D) : Blk X K E B Γ R sts D := by
  obtain ⟨t, h1, h2⟩ := hr
  exact ⟨t, h1, fun S σ H b q => h2 S σ H b (q.impR h)⟩
/-- some list at p -/
def rLa (p : Addr) : Res := ⟨fun _ _ O => ∃ vs, O = hOne p (.lst vs), fun _ h => h⟩
theorem imp_la {p : Addr} {ds : List PyData} : ∀ K S O, (rL p ds).r K S O → (rLa p).r K S O := fun K S O ⟨vs, h, _⟩ => ⟨vs, h⟩
theorem ev_clearA (F : Fam X P w K mg base A N) (k : Nat) {p : Addr} {apos : Pos} (ho : EvJ X K E Γ R o R (sv (.ref p))) (hk : R[k]? = some (rLa p))
    (hbase : ∀ i, attributeBase o "clear" (X i).env (eval o (X i).env) = eval o (X i).env := by exact fun _ => rfl)
    (hline : (apos.endLine == pos.line) = true := by rfl) :
    EvJ X K E Γ R (.Call (.Attribute o "clear" apos) [] [] pos) R dN := by
  have hset : R.set k (rLa p) = R := by
    obtain ⟨h1, h2⟩ := List.getElem?_eq_some_iff.mp hk
    rw [← h2, List.set_getElem_self]
  have hcell : ∀ {Γ S σ H}, SR K E Γ R S σ H → ∃ vs, H p = some (.lst vs) := fun q => by
    obtain ⟨O, ⟨vs, e⟩, h⟩ := q.res k hk
    subst e
    exact ⟨vs, h p _ hOne_same⟩
  refine ev_mt0 F PySem.F.plainAttrs_list PySem.F.slot_list_clear PySem.F.type_list_clear ho ⟨rClear, fun _ => mt_clear, fun Γ S σ H x q r => ?_, fun Γ S σ H x xs Q q r1 r2 k' => ?_⟩ hbase hline
  · cases (show x = .ref p from r)
    obtain ⟨vs, h⟩ := hcell q
    exact .inl ⟨rfl, _, SqL.of h⟩
  · cases r2
    cases (show x = .ref p from r1)
    obtain ⟨vs, c1⟩ := hcell q
    refine ⟨p, vs, rfl, rfl, c1, k' _ S _ (Same.refl _) ?_ rfl⟩
    have := q.put (o' := .lst []) (ρ' := rLa p) k hk (fun O ⟨vs, e⟩ => ⟨_, e⟩) ⟨[], rfl⟩
    rw [hset] at this
    exact this
/-- one's own list of values that stays as it is -/
theorem it_mineS (F : Fam X P w K mg base A N) {tg : Expr} {p : Addr} {ss : List Sl} (h : EvJ X K E Γ R e R1 (sv (.ref p))) (m : Nat) (hm : R1[m]? = some (rLs p ss)) : ItJ X K E Γ R tg e R1 ss (fun R' => R'[m]? = some (rLs p ss)) := by
  obtain ⟨t, a1, a2⟩ := h
  have hcell : ∀ {R : List Res} {Γ S σ H}, R[m]? = some (rLs p ss) → SR K E Γ R S σ H → ∃ vs, H p = some (.lst vs) ∧ All2 (fun (s : Sl) v => s.r K S v) ss vs := fun hm q => by
    obtain ⟨O, ⟨vs, e, h1⟩, h⟩ := q.res m hm
    subst e
    exact ⟨vs, h p _ hOne_same, h1⟩
  refine ⟨iList K t, fun i => by rw [← F.fK i]; exact pi_list (a1 i), fun S σ H Rk q k => a2 S σ H _ q fun v S1 H1 e1 q1 r1 => ?_⟩
  cases (show v = .ref p from r1)
  obtain ⟨vs, h1, h2⟩ := hcell hm q1
  refine ⟨p, rfl, ⟨vs, SqL.of h1⟩, k _ S1 H1 e1 q1 fun n Γ' R' S' σ' H' e' q' hC => ?_⟩
  obtain ⟨us, g1, g2⟩ := hcell hC q'
  refine ⟨fun s hs => ?_, fun hn => ⟨us, SqL.of g1, by rw [← g2.len]; exact hn⟩⟩
  obtain ⟨x, hx, hd⟩ := g2.get hs
  refine ⟨⟨us, x, SqL.of g1, hx⟩, fun y H'' hy => ?_⟩
  obtain ⟨rfl, hy⟩ := hy
  have := hy us (SqL.of g1)
  rw [hx] at this
  cases this
  exact ⟨S', Same.refl _, q', hd⟩
/-! ### a comprehension of new lists -/
def LcN {ν : Type} (X : ι → Cx) (K : PySem.W.Frag) (E : Ent) (Γ : Slots) (R : List Res) (e : Expr) (R' : ν → List Res) (s : ν → Sl) : Prop :=
  ∃ t : TE, (∀ i, PE (X i) e t) ∧ (∀ i (k : Nat) (y : Str) (py spos : Pos), (X i).N[k]? = some y → (X i).env.scope.names.lookup y = some .local → swapsWith e (some (.Name y py)) spos.line (X i).env = pure true → PS (X i) (.Assign [.Name y py] e spos) (tAsg t (gName k))) ∧
    ∀ S σ H (Q : VK), SR K E Γ R S σ H → (∀ n, Kont K E Γ (R' n) σ S (s n) Q) → t σ H Q
/-- the list of the lists at ps -/
abbrev rRefs (D : Addr) (ps : List Addr) : Res := rLs D (ps.map fun p => sv (.ref p))
theorem set_mid {α : Type} {l m : List α} {x y : α} : (l ++ x :: m).set l.length y = l ++ y :: m := by simp
theorem get_mid {α : Type} {l m : List α} {x : α} : (l ++ x :: m)[l.length]? = some x := by simp
theorem lc_own {α : Type} {tg iter elt : Expr} {scope : Scope} {own : List (Str × Nat)} {C : List Res → Prop} {us : List Nat} {xs : List α} {it : α → Sl} {up : α → Slots → Slots} {d : α → List PyData}
    (F : Fam X P w K mg base A N) (hi : ItJ X K E Γ R tg iter R1 (xs.map it) C) (ok : ∀ i, BlkOk (X i).N (X i).env.scope scope own)
    (htg : Fam (BX X scope) P w K mg base A N → TgA (BX X scope) K E tg it up us) (hu : ∀ j ∈ us, j ∈ own.map (·.2)) (hC : ∀ R', C R')
    (he : Fam (BX X scope) P w K mg base A N → ∀ R', ∀ x ∈ xs, EvL (BX X scope) K E (up x (wipeG Γ (own.map (·.2)))) R' elt R' (d x))
    (hz : xs.length ≤ 1000000) (hs : ∀ i x, foldedSetIterable iter (X i).env x = pure x := by exact fun _ _ => rfl) (hcm : ∀ i, (X i).calm = true := by exact fun _ => rfl) :
    LcN X K E Γ R (.ListComp elt [⟨tg, iter, [], 0⟩] scope pos) (fun n : Addr × {ps : List Addr // ps.length = xs.length} => R1 ++ rRefs n.1 n.2.1 :: List.zipWith (fun p x => rL p (d x)) n.2.1 xs) (fun n => sv (.ref n.1)) := by
  have htg := htg (fam_blk F)
  have he := he (fam_blk F)
  obtain ⟨wi, w1, w2⟩ := hi
  obtain ⟨g, t1, t2⟩ := htg
  have he' := fun (n : { q : List Res × α // q.2 ∈ xs }) => Classical.choose_spec (he n.1.1 n.1.2 n.2)
  refine ⟨tLc wi g tYes _ (own.map (·.2)), fun i => pe_lc (hcm i) (by rw [F.fN i]; exact F.nd) (w1 i) (ok i) (fun s H C cl fp => t1 ⟨i, s, H, C, cl, fp⟩) (fun s H C cl fp => pts_nil) (fun s H C cl fp => pe_any fun n => (he' n).1 ⟨i, s, H, C, cl, fp⟩) (hs i), fun i k y py spos hy hyl hsw => ps_setLc (hcm i) (by rw [F.fN i]; exact F.nd) hy hyl hsw (w1 i) (ok i) (fun s H C cl fp => t1 ⟨i, s, H, C, cl, fp⟩) (fun s H C cl fp => pts_nil) (fun s H C cl fp => pe_any fun n => (he' n).1 ⟨i, s, H, C, cl, fp⟩) (hs i), fun S σ H Q q kk => ?_⟩
  refine w2 S σ H _ q fun J S1 H1 e1 q1 hJ D hD => ?_
  refine ⟨fun n m H => m = xs.length - n ∧ n ≤ xs.length ∧ ∃ S' ps, Same S1 S' ∧ ps.length = n ∧ SR K E Γ (R1 ++ rRefs D ps :: List.zipWith (fun p x => rL p (d x)) ps (xs.take n)) S' σ H, ⟨xs.length, by simp, Nat.zero_le _, S1, [], Same.refl _, rfl, q1.mine hD ⟨[], rfl, .nil⟩⟩, ?_⟩
  rintro n m H2 ⟨rfl, hn, S2, ps, e2, hpl, q2⟩
  obtain ⟨g1, g2⟩ := hJ n _ _ S2 σ H2 e2 q2 (hC _)
  by_cases hlt : n < xs.length
  · have hx : xs[n]? = some xs[n] := List.getElem?_eq_getElem hlt
    have hm : xs[n] ∈ xs := List.getElem_mem hlt
    have htake : xs.take (n + 1) = xs.take n ++ [xs[n]] := by rw [List.take_succ, hx]; rfl
    obtain ⟨go, hy⟩ := g1 (it xs[n]) (by rw [List.getElem?_map, hx]; rfl)
    refine .inr ⟨go, fun H' => ∃ S' ps, Same S1 S' ∧ ps.length = n + 1 ∧ SR K E Γ (R1 ++ rRefs D ps :: List.zipWith (fun p x => rL p (d x)) ps (xs.take (n + 1))) S' σ H', fun H' ⟨S', ps', h'⟩ => ⟨xs.length - (n + 1), by omega, rfl, hlt, S', ps', h'⟩, fun x H' hx' => ?_⟩
    obtain ⟨S3, e3, q3, r3⟩ := hy x H' hx'
    apply t2 xs[n] _ _ S3 (wipe σ (own.map (·.2))) H' x _ (q3.reslot (wipe_slots _ q3.slots)) r3
    intro σ4 q4 o4 l4
    refine ⟨wipe_eq o4 l4 hu, ?_⟩
    simp only [tYes, if_true]
    refine ⟨⟨(_, xs[n]), hm⟩, (he' ⟨(_, xs[n]), hm⟩).2 S3 σ4 H' _ q4 fun p y S6 H6 e6 q6 r6 => ?_⟩
    cases (show y = .ref p from r6)
    have q6' : SR K E Γ ((R1 ++ rRefs D ps :: List.zipWith (fun p x => rL p (d x)) ps (xs.take n)) ++ [rL p (d xs[n])]) S6 σ H6 := q6.reslot (slots_mono e6 q3.slots)
    rw [List.append_assoc, List.cons_append] at q6'
    obtain ⟨O, ⟨acc, eO, hacc⟩, sO⟩ := q6'.res R1.length get_mid
    subst eO
    refine ⟨acc, sO D _ hOne_same, ?_, S6, ps ++ [p], (e2.trans e3).trans e6, by rw [List.length_append, hpl]; rfl, ?_⟩
    · rw [← hacc.len, List.length_map, hpl]
      have : (sizeLine : Nat) = 16777216 := sizeLine_eq
      omega
    · have h := q6'.put (o' := .lst (acc ++ [.ref p])) (ρ' := rRefs D (ps ++ [p])) R1.length get_mid (fun O ⟨vs, e, _⟩ => ⟨_, e⟩) ⟨_, rfl, by rw [List.map_append]; exact hacc.app (.cons rfl .nil)⟩
      rw [set_mid] at h
      rw [htake, List.zipWith_append (by rw [hpl, List.length_take]; omega)]
      exact h
  · have e : n = xs.length := by omega
    subst e
    rw [List.take_length] at q2
    exact .inl ⟨g2 (by rw [List.length_map]; exact Nat.le_refl _), kk (D, ⟨ps, hpl⟩) _ S2 H2 (e1.trans e2) q2 rfl⟩
theorem lcn_ev {ν : Type} {Rn : ν → List Res} {sn : ν → Sl} (h : LcN X K E Γ R e Rn sn) : EvN X K E Γ R e Rn sn := let ⟨t, h1, _, h3⟩ := h; ⟨t, h1, h3⟩
theorem blk_asgLcN {ν : Type} {Rn : ν → List Res} {sn : ν → Sl} {elt : Expr} {gs : List Comprehension} {scope : Scope} {p2 : Pos} (F : Fam X P w K mg base A N) (k : Nat) {y : Str} {py : Pos} (h : LcN X K E Γ R (.ListComp elt gs scope p2) Rn sn) (hr : ∀ n, Blk X K E B (Γ.set k (some (sn n))) (Rn n) rest D)
    (hi : N[k]? = some y := by rfl) (hl : ∀ i, (X i).env.scope.names.lookup y = some .local := by exact fun _ => rfl) (hk : ∀ i, (X i).env.scope.kind = .function := by exact fun _ => rfl) (hp : (py.line == p2.line) = true := by rfl) (ha : (scope.names.any fun (n, k) => n == y && (k == .local || k == .cell)) = false := by decide +kernel) :
    Blk X K E B Γ R (.Assign [.Name y py] (.ListComp elt gs scope p2) pos :: rest) D := by
  obtain ⟨t, h1, h2, h3⟩ := h
  have hr' := fun n => Classical.choose_spec (hr n)
  refine ⟨tSeq (tAsg t (gName k)) _, fun i => pss_cons (h2 i k y py pos (by rw [F.fN i]; exact hi) (hl i) (sw_true (hk i) (hl i) hp ha)) (pss_any fun n => (hr' n).1 i), fun S σ H b q => ?_⟩
  exact h3 S σ H _ q fun n v S1 H1 e1 q1 r1 => ⟨n, (hr' n).2 S1 _ H1 (b.trans e1) (q1.setSlot k r1)⟩
theorem imp_id {ρ : Res} : ∀ K S O, ρ.r K S O → ρ.r K S O := fun _ _ _ h => h
end
end SL

/-! dealing: the plain side -/
namespace SL
open PySem PySem.Spec PyProof.Rows L2
def stepD (now ws caps : List Int) (best : Option Nat) (k : Nat) : Option Nat :=
  if now.getD k 0 < caps.getD k 0 then
    match best with
    | none => some k
    | some b => if (now.getD k 0 + 1) * ws.getD b 0 < (now.getD b 0 + 1) * ws.getD k 0 then some k else some b
  else best
def nextD (now ws caps : List Int) : Option Nat := (List.range now.length).foldl (stepD now ws caps) none
def dealD (ws caps : List Int) : Nat → List Int → List Nat
  | 0, _ => []
  | m + 1, now => match nextD now ws caps with
    | none => []
    | some p => p :: dealD ws caps m (now.set p (now.getD p 0 + 1))
def roomD (held caps : List Int) : Int := ((held.zip caps).map fun x => max 0 (x.2 - x.1)).sum
theorem fold_step {now ws caps : List Int} : ∀ (l : List Nat) (best : Option Nat), (l.foldl (stepD now ws caps) best = none → best = none ∧ ∀ k ∈ l, ¬ now.getD k 0 < caps.getD k 0) ∧ ∀ p, l.foldl (stepD now ws caps) best = some p → best = some p ∨ (p ∈ l ∧ now.getD p 0 < caps.getD p 0)
  | [], best => ⟨fun h => ⟨h, fun k hk => nomatch hk⟩, fun p h => .inl h⟩
  | k :: l, best => by
    rw [List.foldl_cons]
    obtain ⟨h1, h2⟩ := fold_step (ws := ws) l (stepD now ws caps best k)
    refine ⟨fun h => ?_, fun p h => ?_⟩
    · obtain ⟨h3, h4⟩ := h1 h
      unfold stepD at h3
      split at h3
      · split at h3
        · exact nomatch h3
        · split at h3 <;> exact nomatch h3
      · rename_i hc
        refine ⟨h3, fun j hj => ?_⟩
        rcases List.mem_cons.mp hj with e | e
        · rw [e]; exact hc
        · exact h4 j e
    · rcases h2 p h with h3 | ⟨h3, h4⟩
      · unfold stepD at h3
        split at h3
        · rename_i hc
          split at h3
          · cases h3; exact .inr ⟨List.mem_cons_self .., hc⟩
          · split at h3
            · cases h3; exact .inr ⟨List.mem_cons_self .., hc⟩
            · exact .inl h3
        · exact .inl h3
      · exact .inr ⟨List.mem_cons_of_mem _ h3, h4⟩
theorem next_in {now ws caps : List Int} {p : Nat} (h : nextD now ws caps = some p) : p < now.length ∧ now.getD p 0 < caps.getD p 0 := by
  rcases (fold_step (List.range now.length) none).2 p h with h1 | ⟨h1, h2⟩
  · exact nomatch h1
  · exact ⟨List.mem_range.mp h1, h2⟩
theorem room_nn : ∀ (now caps : List Int), 0 ≤ roomD now caps
  | [], _ => Int.le_refl _
  | a :: now, [] => Int.le_refl _
  | a :: now, c :: caps => by
    have := room_nn now caps
    unfold roomD at *
    rw [List.zip_cons_cons, List.map_cons, List.sum_cons]
    show 0 ≤ max 0 (c - a) + _
    omega
theorem room_pos : ∀ {now caps : List Int}, 0 < roomD now caps → ∃ k, k < now.length ∧ now.getD k 0 < caps.getD k 0
  | [], _, h => absurd h (by unfold roomD; simp)
  | a :: now, [], h => absurd h (by unfold roomD; simp)
  | a :: now, c :: caps, h => by
    by_cases hc : a < c
    · exact ⟨0, by simp, by simpa using hc⟩
    · have h1 : 0 < roomD now caps := by
        unfold roomD at *
        rw [List.zip_cons_cons, List.map_cons, List.sum_cons] at h
        have h : 0 < max 0 (c - a) + ((now.zip caps).map fun x => max 0 (x.2 - x.1)).sum := h
        omega
      obtain ⟨k, h2, h3⟩ := room_pos h1
      exact ⟨k + 1, by simp; omega, by simpa using h3⟩
theorem room_set : ∀ {now caps : List Int} {p : Nat}, now.length ≤ caps.length → p < now.length → now.getD p 0 < caps.getD p 0 → roomD (now.set p (now.getD p 0 + 1)) caps = roomD now caps - 1
  | [], _, p, _, h, _ => nomatch h
  | a :: now, [], p, hl, _, _ => by simp at hl
  | a :: now, c :: caps, 0, hl, h, hc => by
    have hc : a < c := by simpa using hc
    unfold roomD
    rw [List.set_cons_zero, List.zip_cons_cons, List.zip_cons_cons, List.map_cons, List.map_cons, List.sum_cons, List.sum_cons]
    show max 0 (c - (a + 1)) + _ = max 0 (c - a) + _ - 1
    omega
  | a :: now, c :: caps, p + 1, hl, h, hc => by
    have ih := room_set (now := now) (caps := caps) (p := p) (by simpa using hl) (by simpa using h) (by simpa using hc)
    unfold roomD at *
    rw [List.set_cons_succ, List.zip_cons_cons, List.zip_cons_cons, List.map_cons, List.map_cons, List.sum_cons, List.sum_cons, List.getD_cons_succ, ih]
    omega
theorem next_some {now ws caps : List Int} (h : 0 < roomD now caps) : ∃ p, nextD now ws caps = some p ∧ p < now.length ∧ now.getD p 0 < caps.getD p 0 := by
  cases e : nextD now ws caps with
  | some p => exact ⟨p, rfl, next_in e⟩
  | none =>
    obtain ⟨k, h1, h2⟩ := room_pos h
    exact absurd h2 (((fold_step (List.range now.length) none).1 e).2 k (List.mem_range.mpr h1))
/-! the least key -/
def keyD (now ws : List Int) (k : Nat) : Int := (now.getD k 0 + 1) * (232792560 / ws.getD k 0)
def pairD (now ws : List Int) (k : Nat) : PyData := .tuple [.int (keyD now ws k), .int (k : Int)]
def keysD (now ws caps : List Int) : List Nat := (List.range now.length).filter fun k => decide (now.getD k 0 < caps.getD k 0)
theorem div_exact {w : Int} (h0 : 1 ≤ w) (h1 : w ≤ 20) : 232792560 / w * w = 232792560 := by
  have : w = 1 ∨ w = 2 ∨ w = 3 ∨ w = 4 ∨ w = 5 ∨ w = 6 ∨ w = 7 ∨ w = 8 ∨ w = 9 ∨ w = 10 ∨ w = 11 ∨ w = 12 ∨ w = 13 ∨ w = 14 ∨ w = 15 ∨ w = 16 ∨ w = 17 ∨ w = 18 ∨ w = 19 ∨ w = 20 := by omega
  rcases this with h | h | h | h | h | h | h | h | h | h | h | h | h | h | h | h | h | h | h | h <;> subst h <;> decide
theorem scale_lt {a v b w : Int} (hv : 1 ≤ v ∧ v ≤ 20) (hw : 1 ≤ w ∧ w ≤ 20) : a * (232792560 / v) < b * (232792560 / w) ↔ a * w < b * v := by
  have e1 := div_exact hv.1 hv.2
  have e2 := div_exact hw.1 hw.2
  have hp : 0 < v * w := Int.mul_pos (by omega) (by omega)
  have h1 : a * (232792560 / v) * (v * w) = a * w * 232792560 := by
    rw [show a * (232792560 / v) * (v * w) = a * w * (232792560 / v * v) by simp only [Int.mul_assoc, Int.mul_comm, Int.mul_left_comm], e1]
  have h2 : b * (232792560 / w) * (v * w) = b * v * 232792560 := by
    rw [show b * (232792560 / w) * (v * w) = b * v * (232792560 / w * w) by simp only [Int.mul_assoc, Int.mul_comm, Int.mul_left_comm], e2]
  constructor
  · intro h
    have := Int.mul_lt_mul_of_pos_right h hp
    rw [h1, h2] at this
    exact Int.lt_of_mul_lt_mul_right this (by decide)
  · intro h
    have := Int.mul_lt_mul_of_pos_right h (show (0 : Int) < 232792560 by decide)
    rw [← h1, ← h2] at this
    exact Int.lt_of_mul_lt_mul_right this (Int.le_of_lt hp)
theorem fold_min {now ws caps : List Int} (hw : ∀ k, k < now.length → 1 ≤ ws.getD k 0 ∧ ws.getD k 0 ≤ 20) : ∀ (l : List Nat) (b : Nat), (∀ k ∈ l, b < k ∧ k < now.length) → b < now.length → l.Pairwise (· < ·) →
    ∃ p, l.foldl (stepD now ws caps) (some b) = some p ∧ PySem.W.minD (pairD now ws b) ((l.filter fun k => decide (now.getD k 0 < caps.getD k 0)).map (pairD now ws)) = pairD now ws p
  | [], b, _, _, _ => ⟨b, rfl, rfl⟩
  | k :: l, b, hb, hbn, hp => by
    obtain ⟨hbk, hkn⟩ := hb k (List.mem_cons_self ..)
    obtain ⟨hp1, hp2⟩ := List.pairwise_cons.mp hp
    rw [List.foldl_cons, List.filter_cons]
    by_cases hc : now.getD k 0 < caps.getD k 0
    · rw [if_pos (decide_eq_true hc), List.map_cons]
      have hlt : PySem.W.dataLt (pairD now ws k) (pairD now ws b) = decide ((now.getD k 0 + 1) * ws.getD b 0 < (now.getD b 0 + 1) * ws.getD k 0) := by
        unfold pairD
        rw [PySem.W.dataLt_ii]
        refine decide_eq_decide.mpr ⟨fun h => ?_, fun h => .inl ((scale_lt (hw k hkn) (hw b hbn)).mpr h)⟩
        rcases h with h | ⟨_, h⟩
        · exact (scale_lt (hw k hkn) (hw b hbn)).mp h
        · omega
      unfold PySem.W.minD
      rw [List.foldl_cons, hlt]
      unfold stepD
      rw [if_pos hc]
      by_cases h2 : (now.getD k 0 + 1) * ws.getD b 0 < (now.getD b 0 + 1) * ws.getD k 0
      · rw [if_pos (decide_eq_true h2)]
        simp only [if_pos h2]
        exact fold_min hw l k (fun j hj => ⟨hp1 j hj, (hb j (List.mem_cons_of_mem _ hj)).2⟩) hkn hp2
      · rw [if_neg (by simpa using h2)]
        simp only [if_neg h2]
        exact fold_min hw l b (fun j hj => hb j (List.mem_cons_of_mem _ hj)) hbn hp2
    · rw [if_neg (by simpa using hc)]
      have : stepD now ws caps (some b) k = some b := if_neg hc
      rw [this]
      exact fold_min hw l b (fun j hj => hb j (List.mem_cons_of_mem _ hj)) hbn hp2
theorem fold_none {now ws caps : List Int} : ∀ (l : List Nat), (l.filter fun k => decide (now.getD k 0 < caps.getD k 0)) = [] ∧ l.foldl (stepD now ws caps) none = none ∨
    ∃ b l1 l2, l = l1 ++ b :: l2 ∧ (l.filter fun k => decide (now.getD k 0 < caps.getD k 0)) = b :: (l2.filter fun k => decide (now.getD k 0 < caps.getD k 0)) ∧ l.foldl (stepD now ws caps) none = l2.foldl (stepD now ws caps) (some b)
  | [] => .inl ⟨rfl, rfl⟩
  | k :: l => by
    by_cases hc : now.getD k 0 < caps.getD k 0
    · refine .inr ⟨k, [], l, rfl, by rw [List.filter_cons, if_pos (decide_eq_true hc)], ?_⟩
      rw [List.foldl_cons]
      have : stepD now ws caps none k = some k := by unfold stepD; rw [if_pos hc]
      rw [this]
    · have h1 : stepD now ws caps none k = none := by unfold stepD; rw [if_neg hc]
      rcases fold_none (ws := ws) l with ⟨h2, h3⟩ | ⟨b, l1, l2, e, h2, h3⟩
      · exact .inl ⟨by rw [List.filter_cons, if_neg (by simpa using hc), h2], by rw [List.foldl_cons, h1, h3]⟩
      · exact .inr ⟨b, k :: l1, l2, by rw [e]; rfl, by rw [List.filter_cons, if_neg (by simpa using hc), h2], by rw [List.foldl_cons, h1, h3]⟩
/-- the least of the keys tells the next place -/
theorem next_key {now ws caps : List Int} (hw : ∀ k, k < now.length → 1 ≤ ws.getD k 0 ∧ ws.getD k 0 ≤ 20) {p : Nat} (h : nextD now ws caps = some p) : ∃ b l, keysD now ws caps = b :: l ∧ PySem.W.minD (pairD now ws b) (l.map (pairD now ws)) = pairD now ws p := by
  unfold nextD at h
  rcases fold_none (now := now) (ws := ws) (caps := caps) (List.range now.length) with ⟨h2, h3⟩ | ⟨b, l1, l2, e, h2, h3⟩
  · rw [h3] at h; exact nomatch h
  · have hr : (List.range now.length).Pairwise (· < ·) := List.pairwise_lt_range
    rw [e] at hr
    obtain ⟨_, hr2, _⟩ := List.pairwise_append.mp hr
    obtain ⟨hr3, hr4⟩ := List.pairwise_cons.mp hr2
    have hmem : ∀ k ∈ b :: l2, k < now.length := fun k hk => List.mem_range.mp (by rw [e]; exact List.mem_append.mpr (.inr hk))
    obtain ⟨q, h4, h5⟩ := fold_min (caps := caps) hw l2 b (fun k hk => ⟨hr3 k hk, hmem k (List.mem_cons_of_mem _ hk)⟩) (hmem b (List.mem_cons_self ..)) hr4
    rw [h3, h4] at h
    cases h
    exact ⟨b, _, h2, h5⟩
theorem deal_len {ws caps : List Int} : ∀ (m : Nat) (now : List Int), (dealD ws caps m now).length ≤ m
  | 0, _ => Nat.le_refl _
  | m + 1, now => by
    unfold dealD
    split
    · simp
    · rw [List.length_cons]; exact Nat.succ_le_succ (deal_len m _)
end SL

/-! bodies of defs to which cells are handed; lists of lists of one's own; the places -/
namespace SL
open PySem PySem.Spec PyProof.Rows L2
section
variable {ι : Type} {X : ι → Cx} {K : PySem.W.Frag} {E : Ent} {B : Hp} {Γ Γ' : Slots} {R R' R1 R2' R3 : List Res} {a b c e o : Expr} {es : List Expr} {pos p' apos : Pos} {s s1 s2 s3 : Sl}
  {P : Program} {w : World} {mg : Str → Option Value} {base : Heap} {A : Around} {N ps : List Str} {rest sts : List Stmt} {D : Ends} {S S' H H' : Hp} {σ σ' : L2.St} {f : Str} {i j : Int}
abbrev BodyG (P : Program) (w : World) (K : PySem.W.Frag) (mg : Str → Option Value) (base : Heap) (N : List Str) (qual : Str) (st : Stmt) (fa : Addr) (k : Nat) {ν : Type} (as : List Sl) (Rs : List Res) (Rn : ν → List Res) (res : ν → Sl) : Prop :=
  ∀ (cdv : Value) (A : Around) (outer : List Env) (s : Shared) (H S0 : Hp) (A0 : Addr → Prop) (E : XK) (Q : VK), Room k (A.deeper (envOfC qual (defScope st) s.heap.objs.size fa cdv)) → Fam (FX P w K mg base N qual st fa cdv A outer s H E) P w K mg base (A.deeper (envOfC qual (defScope st) s.heap.objs.size fa cdv)) N →
    RetOk K ⟨H, S0, A0⟩ Rn res Q → Blk (FX P w K mg base N qual st fa cdv A outer s H E) K ⟨H, S0, A0⟩ S0 (as.map some ++ List.replicate (N.length - as.length) none) Rs (defBody st) { nx := fun _ H' => Q .non H', rt := Q }
theorem fnG {θ : Type} {ν : θ → Type} {pre : θ → Prop} {as : θ → List Sl} {Rs : θ → List Res} {Rn : ∀ i, ν i → List Res} {res : ∀ i, ν i → Sl} {x qual : Str} {st : Stmt} {f : Addr} {fd : FuncData} {k : Nat} (F : Fun K x qual st f fd) (Sc : FnScope N ps (defScope st)) (hl : ∀ i, (as i).length = ps.length)
    (hb : ∀ i, pre i → BodyG P w K mg base N qual st f k (as i) (Rs i) (Rn i) (res i)) : FnOk P w K mg base CX0 (k + 1) f fd ps (spJ K pre as Rs Rn res) :=
  fn_ok F Sc hl fun i cdv A outer s H S0 A0 E Q hr hp hq => hb i hp cdv A outer s H S0 A0 E Q hr (fam_fx Sc) hq
/-- a body that raises -/
abbrev BodyX (P : Program) (w : World) (K : PySem.W.Frag) (mg : Str → Option Value) (base : Heap) (N : List Str) (qual : Str) (st : Stmt) (fa : Addr) (k : Nat) (C : Addr) (as : List Sl) (Rs Rn : List Res) : Prop :=
  ∀ (cdv : Value) (A : Around) (outer : List Env) (s : Shared) (H S0 : Hp) (A0 : Addr → Prop) (E : XK) (W : WX) (Q : VK), Room k (A.deeper (envOfC qual (defScope st) s.heap.objs.size fa cdv)) → Fam (FXR P w K mg base N qual st fa cdv A outer s H E) P w K mg base (A.deeper (envOfC qual (defScope st) s.heap.objs.size fa cdv)) N →
    (∀ i, L2N.Takes (FXR P w K mg base N qual st fa cdv A outer s H E i) W) → (∀ i, PassesOwn (model (FXR P w K mg base N qual st fa cdv A outer s H E i).prog (FXR P w K mg base N qual st fa cdv A outer s H E i).w) (FXR P w K mg base N qual st fa cdv A outer s H E i).A (FXR P w K mg base N qual st fa cdv A outer s H E i).env (FXR P w K mg base N qual st fa cdv A outer s H E i).xe) →
    ExcOk K ⟨H, S0, A0⟩ C Rn W → Blk (FXR P w K mg base N qual st fa cdv A outer s H E) K ⟨H, S0, A0⟩ S0 (as.map some ++ List.replicate (N.length - as.length) none) Rs (defBody st) { nx := fun _ H' => Q .non H', rt := Q }
theorem fnX {θ : Type} {pre : θ → Prop} {as : θ → List Sl} {Rs Rn : θ → List Res} {x qual : Str} {st : Stmt} {f C : Addr} {fd : FuncData} {k : Nat} (F : Fun K x qual st f fd) (Sc : FnScope N ps (defScope st)) (hl : ∀ i, (as i).length = ps.length)
    (hb : ∀ i, pre i → BodyX P w K mg base N qual st f k C (as i) (Rs i) (Rn i)) : FnOk P w K mg base (L2N.CX P w) (k + 1) f fd ps (spR K pre as Rs C Rn) :=
  fn_okR F Sc hl fun i cdv A outer s H S0 A0 E W Q hr F' hp tk ps hq => hb i hp cdv A outer s H S0 A0 E W Q hr F' tk ps hq
/-- some of what is one's own -/
theorem SR.sub' (q : SR K E Γ R S σ H) (h : List.Sublist R' R) : SR K E Γ R' S σ H := by
  obtain ⟨Os, ⟨h1, h2⟩, h3⟩ := q.own
  have : ∀ {R' R : List Res} {Os : List Hp}, List.Sublist R' R → All2 (fun (ρ : Res) O => ρ.r K S O ∧ Same O H ∧ ∀ a, O a ≠ none → S a = none) R Os → ∃ Os', List.Sublist Os' Os ∧ All2 (fun (ρ : Res) O => ρ.r K S O ∧ Same O H ∧ ∀ a, O a ≠ none → S a = none) R' Os' := by
    intro R' R Os hs
    induction hs generalizing Os with
    | slnil => intro h; cases h; exact ⟨[], .slnil, .nil⟩
    | cons x _ ih =>
      intro h
      cases h with
      | cons a b => obtain ⟨Os', g1, g2⟩ := ih b; exact ⟨Os', .cons _ g1, g2⟩
    | cons_cons x _ ih =>
      intro h
      cases h with
      | cons a b => obtain ⟨Os', g1, g2⟩ := ih b; exact ⟨_ :: Os', .cons_cons _ g1, .cons a g2⟩
  obtain ⟨Os', g1, g2⟩ := this h h1
  exact ⟨q.sub, q.ext, q.fr, q.new, ⟨Os', ⟨g2, h2.sublist g1⟩, fun O hO => h3 O (g1.subset hO)⟩, q.slots⟩
theorem blk_sub (R' : List Res) (h : List.Sublist R' R) (hr : Blk X K E B Γ R' sts D) : Blk X K E B Γ R sts D := by
  obtain ⟨t, h1, h2⟩ := hr
  exact ⟨t, h1, fun S σ H b q => h2 S σ H b (q.sub' h)⟩
/-- a return, of some of what is one's own -/
theorem retG {ν : Type} {Rn : ν → List Res} {res : ν → Sl} {Q : VK} (hq : RetOk K E Rn res Q) (n : ν) (hR : List.Sublist (Rn n) R1) (h : ∀ K S v, s.r K S v → (res n).r K S v) : ∀ S σ H v, SR K E Γ R1 S σ H → s.r K S v → Q v H :=
  fun S σ H v q r => hq n Γ S σ H v (q.sub' hR) (h K S v r)
/-- an item of a list of values -/
theorem ix_rls (F : Fam X P w K mg base A N) (k : Nat) {p : Addr} {ss : List Sl} (hk : R[k]? = some (rLs p ss)) (hi : atI ss i = some s) : IxJ X K E R (sv (.ref p)) (sv (.int i)) s :=
  ⟨rIxL K, fun n => by rw [← F.fK n]; exact ix_list, fun Γ S σ H x y Q q r1 r2 k' => by
    cases (show y = .int i from r2)
    cases (show x = .ref p from r1)
    obtain ⟨O, ⟨vs, e, h2⟩, h1⟩ := q.res k hk
    subst e
    have h1 := h1 p _ hOne_same
    obtain ⟨m, v, e1, e2, e3⟩ := atI_len h2.len.symm hi
    obtain ⟨v', e4, h4⟩ := h2.get e1
    rw [e2] at e4
    cases e4
    exact ⟨p, vs, i, v, rfl, rfl, SqL.of h1, e3, k' v S H (Same.refl _) q h4⟩⟩
/-- a list of lists of one's own as data -/
theorem dv_refs (k : Nat) {p : Addr} {ps : List Addr} {dss : List (List PyData)} (hk : R[k]? = some (rRefs p ps)) (h : All2 (fun q ds => ∃ j : Nat, R[j]? = some (rL q ds)) ps dss) : DV K R (sv (.ref p)) (.list (dss.map .list)) := fun E Γ S σ H v q r => by
  cases (show v = .ref p from r)
  obtain ⟨O, ⟨vs, e, h2⟩, h1⟩ := q.res k hk
  subst e
  replace h1 := h1 p _ hOne_same
  have hv : vs = ps.map V.ref := by
    clear h h1 hk
    induction ps generalizing vs with
    | nil => cases h2; rfl
    | cons a ps ih =>
      cases h2 with
      | cons x y =>
        cases (show _ = V.ref a from x)
        rw [ih _ y]
        rfl
  subst hv
  have hd : DpAll K H (ps.map V.ref) (dss.map .list) ∧ PyData.plainAll (dss.map .list) = true := by
    clear h1 h2 hk
    induction h with
    | nil => exact ⟨.nil, rfl⟩
    | cons a b ih =>
      obtain ⟨j, hj⟩ := a
      obtain ⟨g1, g2⟩ := dv_o (K := K) j hj E Γ S σ H _ q rfl
      rw [List.map_cons, List.map_cons]
      exact ⟨.cons g1 ih.1, by rw [PyData.plainAll, g2, ih.2]; rfl⟩
  exact ⟨.lst (SqL.of h1) hd.1, by rw [PyData.plain]; exact hd.2⟩
end
theorem tup_III {K : PySem.W.Frag} {α : Type} {g h l : α → Int} : ∀ (y : α) S v, (sd (.tuple [.int (g y), .int (h y), .int (l y)])).r K S v → (stup [dI (g y), dI (h y), dI (l y)]).r K S v := fun y S v r => tup_sl r
theorem boot_ValueError : bootBuiltins "ValueError" = some (.type "ValueError") := by decide +kernel
/-- a place or None -/
def dOI : Option Nat → Sl
  | none => dN
  | some k => dI (k : Int)
theorem minD_LV {α : Type} {f : α → PyData} {x : α} {xs : List α} : (x :: xs).map f = f x :: xs.map f := rfl
theorem alike_pairD (now ws : List Int) (b : Nat) (l : List Nat) : PySem.W.AlikeAll (pairD now ws b :: l.map (pairD now ws)) := by
  have hm : ∀ x ∈ pairD now ws b :: l.map (pairD now ws), ∃ k, x = pairD now ws k := fun x hx => by
    rcases List.mem_cons.mp hx with h | h
    · exact ⟨b, h⟩
    · obtain ⟨k, _, rfl⟩ := List.mem_map.mp h; exact ⟨k, rfl⟩
  refine ⟨fun x hx y hy => ?_, fun x hx => ?_⟩
  · obtain ⟨k, rfl⟩ := hm x hx
    obtain ⟨j, rfl⟩ := hm y hy
    rfl
  · obtain ⟨k, rfl⟩ := hm x hx
    exact fun e => nomatch e
theorem deep_pairD (now ws : List Int) (b : Nat) (l : List Nat) : PyData.depthAll (pairD now ws b :: l.map (pairD now ws)) ≤ 32 := by
  have : depA 32 (pairD now ws b :: l.map (pairD now ws)) := depA_cons (dep_tup (depA_cons dep_int (depA_cons dep_int depA_nil))) (depA_map fun _ => dep_tup (depA_cons dep_int (depA_cons dep_int depA_nil)))
  exact this
end SL
namespace SL
open PySem PySem.Spec PyProof.Rows L2
section
variable {ι : Type} {X : ι → Cx} {K : PySem.W.Frag} {E : Ent} {B : Hp} {Γ Γ' : Slots} {R R' : List Res} {pos : Pos} {rest : List Stmt} {D : Ends}
/-- a try whose body raises nothing and leaves something of which a law is told -/
theorem blk_tryNoX {γ : Type} (I : γ → Prop) (G : γ → Slots) (RR : γ → List Res) {body : List Stmt} {h₀ : ExceptHandler} {hs : List ExceptHandler} (hb : Blk X K E B Γ R body { nx := PstX K E B I G RR, rt := D.rt, bk := D.bk, ct := D.ct }) (hr : ∀ g, I g → Blk X K E B (G g) (RR g) rest D) (hn : ∀ i e s, ¬ (X i).xe e s := by exact fun _ _ _ h => h) :
    Blk X K E B Γ R (.Try body (h₀ :: hs) [] [] pos :: rest) D := by
  obtain ⟨t, h1, h2⟩ := hb
  have hr' := fun (n : { g : γ // I g }) => Classical.choose_spec (hr n.1 n.2)
  refine ⟨Evl.tCut (tThru t tNext) _, fun i => Evl.pss_cut (ps_try_never (hn i) (h1 i) pss_nil) (pss_any fun n => (hr' n).1 i), fun S σ H b q => ⟨PstX K E B I G RR, ?_, fun σ' H' ⟨g, hI, S2, e2, q2⟩ => ⟨⟨g, hI⟩, (hr' ⟨g, hI⟩).2 S2 σ' H' e2 q2⟩⟩⟩
  exact h2 S σ H b q
end
end SL
namespace SL
open PySem PySem.Spec PyProof.Rows L2
theorem kit_own {K : PySem.W.Frag} {C D : Addr} {b : Bool} (hd : PySem.W.hasDictIn K D = true) (ht : PySem.W.typeIn K (.ref D) = some (.type "type")) (hs : PySem.W.subIn K (.ref C) (.ref D) = some b) (hself : PySem.W.subIn K (.ref D) (.ref D) = some true) : PySem.W.kitOne K (.ref C) (.ref D) = some b := by
  unfold PySem.W.kitOne
  split
  · rename_i h
    have e : C = D := Value.ref.inj (beq_iff_eq.mp h)
    subst e
    rw [hself] at hs
    exact hs
  · obtain ⟨cd, hc, _⟩ := PySem.W.any_some hd
    unfold PySem.W.kitCls
    simp only []
    rw [if_pos (by rw [hc, ht]; rfl)]
    exact hs
theorem kit_bty {K : PySem.W.Frag} {C : Addr} {T : String} {b : Bool} (hm : PySem.W.kitMeta T = true) (hs : PySem.W.subIn K (.ref C) (.type T) = some b) : PySem.W.kitOne K (.ref C) (.type T) = some b := by
  unfold PySem.W.kitOne
  rw [if_neg (fun h => nomatch (beq_iff_eq.mp h : Value.ref C = Value.type T))]
  unfold PySem.W.kitCls
  simp only []
  rw [if_pos hm]
  exact hs
end SL

/-! defs that show things: called where nothing is being shown -/
namespace SL
open PySem PySem.Spec PyProof.Rows L2
/-- as FnOk, where nothing is being shown -/
structure FnG (P : Program) (w : World) (K : PySem.W.Frag) (mg : Str → Option Value) (base : Heap) (CX : CXT) (k : Nat) (fa : Addr) (fd : FuncData) (ps : List Str) (sp : Sp) : Prop where
  len : ∀ vs H Q E, sp vs H Q E → vs.length = ps.length
  go : ∀ (A : Around) (outer : List Env) (s : Shared) (H : Hp) (args : Args) (us : List Value) (vs : List V) (Q : VK) (E : XK), Room k A → A.guards = some [] → Env0 P w K mg base A outer s H → BindsTo s fd args (ps.zip us) → Vals vs us → sp vs H Q E →
    codeAny (model P w) A (.call (.ref fa) args) (CR CX outer P w H s Q E) s
section
variable {P : Program} {w : World} {K : PySem.W.Frag} {mg : Str → Option Value} {base : Heap} {CX : CXT} {k : Nat} {fa : Addr} {ps N : List Str} {sp : Sp}
theorem FnG.of_body {x qual : Str} {st : Stmt} {fd : FuncData} (F : Fun K x qual st fa fd) (Sc : FnScope N ps (defScope st)) (hlen : ∀ vs H Q E, sp vs H Q E → vs.length = ps.length)
    (hb : ∀ (cdv : Value) (A : Around) (outer : List Env) (s : Shared) (H : Hp) (vs : List V) (Q : VK) (E : XK), Room k (A.deeper (envOfC qual (defScope st) s.heap.objs.size fa cdv)) → A.guards = some [] → sp vs H Q E →
      ∃ t, PSs (cxOf CX P w K mg base N qual (defScope st) fa cdv A outer s H E) (defBody st) t ∧ t { nx := fun _ H' => Q .non H', rt := Q } (L2.start N vs) H) : FnG P w K mg base CX (k + 1) fa fd ps sp := by
  obtain ⟨oc, od, kV, doc, pm, an, cdv, ct, osl, rfl, lk, hcd⟩ := F.ex
  refine ⟨hlen, fun A outer s H args us vs Q E hr hg env hbind hvals hsp => ?_⟩
  have inK : K.In s.heap := env.mod.kin.keeps fun b o e => (env.bs b o e).1
  have noLim : s.heap.NoLimit := env.mod.nolimit.keeps fun b o e => (env.bs b o e).1
  have parKind : ∀ y ∈ ps.zip us, (defScope st).names.lookup y.1 = some .local ∨ ((defScope st).names.lookup y.1 = some .cell ∧ ((cellsFrom (s.heap.objs.size + 1) (defScope st).names []).lookup y.1).isSome = true) := by
    rintro ⟨n, v⟩ hy
    exact (Sc.par n (List.of_mem_zip hy).1).imp id fun q => ⟨q, PySem.W.cellsFrom_some _ _ _ (.inl q)⟩
  refine codeAny_call_function hr.depth (inK _ _ lk) rfl Sc.co Sc.gen rfl (PySem.W.codeRec_of inK hcd) (hbind _ _ _ _ (wpAny_newFunctionEnv_cells Sc.kind parKind fun env' he s1 x => ?_))
  subst he
  refine ⟨noLim.keeps x.toInCall.keep, codeAny_func ?_⟩
  obtain ⟨t, ht, hq⟩ := hb cdv A outer s H vs Q E (hr.deeper _) hg hsp
  have I0 : Inv (cxOf CX P w K mg base N qual (defScope st) fa cdv A outer s H E) [] (L2.start N vs) H s1 := inv_start Sc hr.hd env (hlen _ _ _ _ hsp) hvals x
  refine wpAny_mono (ht.run [] s1 (L2.start N vs) H _ I0 hq) (fun fl s' hs => ?_) fun e s' hs => hs
  cases fl with
  | ret u => obtain ⟨v, σ', H', J, rv, q⟩ := hs; exact ⟨v, H', J.os, J.bare, J.base, J.hok, rv, q⟩
  | next => obtain ⟨σ', H', J, q⟩ := hs; exact ⟨V.non, H', J.os, J.bare, J.base, J.hok, rfl, q⟩
  | brk => obtain ⟨_, _, _, q⟩ := hs; exact q.elim
  | cont => obtain ⟨_, _, _, q⟩ := hs; exact q.elim
end
/-- such a def, to be called -/
structure DefG (P : Program) (w : World) (K : PySem.W.Frag) (mg : Str → Option Value) (base : Heap) (f : Str) (ps : List Str) (k : Nat) (sp : Sp) : Prop where
  ex : ∃ (fa : Addr) (fd : FuncData), FnG P w K mg base CX0 k fa fd ps sp ∧ mg f = some (.ref fa) ∧ PySem.W.keepIn K (.ref fa) = true ∧ Binds K fd ps []
structure CalG (P : Program) (w : World) (K : PySem.W.Frag) (mg : Str → Option Value) (base : Heap) (A : Around) (f : Str) (ps : List Str) (sp : Sp) : Prop where
  ex : ∃ (k : Nat) (fa : Addr) (fd : FuncData), FnG P w K mg base CX0 k fa fd ps sp ∧ (Room k A ∧ A.guards = some []) ∧ mg f = some (.ref fa) ∧ PySem.W.keepIn K (.ref fa) = true ∧ Binds K fd ps []
theorem DefG.cal {P : Program} {w : World} {K : PySem.W.Frag} {mg : Str → Option Value} {base : Heap} {A : Around} {f : Str} {ps : List Str} {k m : Nat} {sp : Sp} (d : DefG P w K mg base f ps k sp) (hr : Room m A) (hg : A.guards = some []) (hk : k ≤ m := by decide) : CalG P w K mg base A f ps sp :=
  let ⟨fa, fd, h1, h2, h3, h4⟩ := d.ex; ⟨k, fa, fd, h1, ⟨hr.mono hk, hg⟩, h2, h3, h4⟩
section
variable {X : Cx} {k : Nat} {fa : Addr} {fd : FuncData} {ps : List Str} {sp : Sp} {x : Str} {p pos : Pos} {e : Expr} {es : List Expr} {t : TA}
theorem run_shown {pins : List (Addr × Obj)} {σ : L2.St} {H : Hp} {s : Shared} {Q : VK} {us : List Value} {vs : List V} (F : FnG X.prog X.w X.K X.mg X.base CX0 k fa fd ps sp) (hr : Room k X.A) (hgd : X.A.guards = some []) (hb : Binds X.K fd ps [])
    (I : Inv X pins σ H s) (r : Vals vs us) (h : sp vs H Q E0) : wpAny (model X.prog X.w) X.A (call (.ref fa) us) (EP X pins σ Q) X.xe s := by
  have hl : us.length = ps.length := (r.length).symm.trans (F.len _ _ _ _ h)
  have b := hb s us I.kIn (by rw [List.append_nil]; exact hl)
  rw [List.append_nil] at b
  refine wpAny_call (codeAny_mono (F.go X.A X.stack s H ⟨us, []⟩ us vs Q E0 hr hgd I.env0 b r h) fun res s' hq => ?_)
  match res, hq with
  | .error _, hq => exact hq.elim
  | .ok (.ret u), hq => exact I.after hq
  | .ok .next, hq => exact hq.elim
  | .ok .brk, hq => exact hq.elim
  | .ok .cont, hq => exact hq.elim
theorem pe_shown (F : FnG X.prog X.w X.K X.mg X.base CX0 k fa fd ps sp) (hr : Room k X.A) (hgd : X.A.guards = some []) (hg : Gl X x) (hm : X.mg x = some (.ref fa)) (hk : PySem.W.keepIn X.K (.ref fa) = true) (hb : Binds X.K fd ps []) (ha : PA X (e :: es) t)
    (hdb : (x == ("__debug__" : Str)) = false) (he : starEach (e :: es) X.env = (false, eval e X.env) :: starEach es X.env) (hpl : (backTo pos (starEach es X.env)).any (·.1) = false) :
    PE X (.Call (.Name x p) (e :: es) [] pos) (fun σ H Q => t σ H fun vs H1 => sp vs H1 Q E0) :=
  ⟨fun pins s σ H Q I h => wpAny_Call_Name_kw (ld_glob I hg hm (PySem.W.callWith_K (h₀ := X.base) I.ok.mod.kin hk (thn (ha.run pos pins s σ H _ I h) fun us s1 ⟨vs, H1, I1, r, q⟩ => ⟨I1.kIn, run_shown F hr hgd hb I1 r q⟩) he hpl) hdb)⟩
end
section
variable {ι : Type} {X : ι → Cx} {K : PySem.W.Frag} {E : Ent} {B : Hp} {Γ Γ' : Slots} {R R' R1 R2' R3 : List Res} {a b c e o : Expr} {es : List Expr} {pos p' apos : Pos} {s s1 s2 s3 : Sl}
  {P : Program} {w : World} {mg : Str → Option Value} {base : Heap} {A : Around} {N ps : List Str} {rest sts : List Stmt} {D : Ends} {S S' H H' : Hp} {σ σ' : L2.St} {f : Str}
theorem ev_callGd {θ : Type} {ν : θ → Type} {pre : θ → Prop} {as : θ → List Sl} {Rs : θ → List Res} {Rn : ∀ i, ν i → List Res} {res : ∀ i, ν i → Sl} (F : Fam X P w K mg base A N) (C : CalG P w K mg base A f ps (spJ K pre as Rs Rn res)) (i : θ) (Ra Rb : List Res) (ha : ArJ X K E Γ R (e :: es) R1 (as i)) (hR : R1 = Ra ++ Rs i ++ Rb) (hpre : pre i)
    (hg : ∀ i, Gl (X i) f := by exact fun _ => rfl) (he : ∀ i, starEach (e :: es) (X i).env = (false, eval e (X i).env) :: starEach es (X i).env := by exact fun _ => rfl) (hpl : ∀ i, (backTo pos (starEach es (X i).env)).any (·.1) = false := by exact fun _ => rfl) (hdb : (f == ("__debug__" : Str)) = false := by decide) :
    EvN X K E Γ R (.Call (.Name f p') (e :: es) [] pos) (fun n => Ra ++ Rn i n ++ Rb) (res i) := by
  obtain ⟨k, fa, fd, hF, ⟨hr, hgd⟩, hm, hk, hb⟩ := C.ex
  obtain ⟨t, a1, a2⟩ := ha
  subst hR
  refine ⟨fun σ H Q => t σ H fun vs H1 => spJ K pre as Rs Rn res vs H1 Q E0, fun j => ?_, fun S σ H Q q kk => a2 S σ H _ q fun vs S1 H1 e1 q1 r1 => ?_⟩
  · refine pe_shown (k := k) (fa := fa) (fd := fd) (ps := ps) ?_ (by rw [F.fA j]; exact hr) (by rw [F.fA j]; exact hgd) (hg j) (by rw [F.fmg j]; exact hm) (by rw [F.fK j]; exact hk) (by rw [F.fK j]; exact hb) (a1 j) hdb (he j) (hpl j)
    rw [F.fP j, F.fw j, F.fK j, F.fmg j, F.fbase j]
    exact hF
  · obtain ⟨Os, hOs, hgive⟩ := q1.give
    exact ⟨i, S1, Os, hpre, q1.sub, r1, hOs, fun n v S' H' Os' hfr hsub hext hnew hown hO hres => kk n v S' H' (e1.trans hext) (hgive _ S' H' Os' hfr hsub hext hnew hown hO) hres⟩
/-- a body in which things are shown -/
abbrev BodyD (P : Program) (w : World) (K : PySem.W.Frag) (mg : Str → Option Value) (base : Heap) (N : List Str) (qual : Str) (st : Stmt) (fa : Addr) (k : Nat) {ν : Type} (as : List Sl) (Rs : List Res) (Rn : ν → List Res) (res : ν → Sl) : Prop :=
  ∀ (cdv : Value) (A : Around) (outer : List Env) (s : Shared) (H S0 : Hp) (A0 : Addr → Prop) (E : XK) (Q : VK), Room k (A.deeper (envOfC qual (defScope st) s.heap.objs.size fa cdv)) → (A.deeper (envOfC qual (defScope st) s.heap.objs.size fa cdv)).guards = some [] → Fam (FX P w K mg base N qual st fa cdv A outer s H E) P w K mg base (A.deeper (envOfC qual (defScope st) s.heap.objs.size fa cdv)) N →
    RetOk K ⟨H, S0, A0⟩ Rn res Q → Blk (FX P w K mg base N qual st fa cdv A outer s H E) K ⟨H, S0, A0⟩ S0 (as.map some ++ List.replicate (N.length - as.length) none) Rs (defBody st) { nx := fun _ H' => Q .non H', rt := Q }
theorem fnD {θ : Type} {ν : θ → Type} {pre : θ → Prop} {as : θ → List Sl} {Rs : θ → List Res} {Rn : ∀ i, ν i → List Res} {res : ∀ i, ν i → Sl} {x qual : Str} {st : Stmt} {fa : Addr} {fd : FuncData} {k : Nat} (F : Fun K x qual st fa fd) (Sc : FnScope N ps (defScope st)) (hl : ∀ i, (as i).length = ps.length)
    (hb : ∀ i, pre i → BodyD P w K mg base N qual st fa k (as i) (Rs i) (Rn i) (res i)) : FnG P w K mg base CX0 (k + 1) fa fd ps (spJ K pre as Rs Rn res) := by
  refine FnG.of_body F Sc (fun vs H Q E ⟨i, S0, Os, h1, h2, h3, h4, h5⟩ => by rw [← h3.len]; exact hl i) (fun cdv A outer s H vs Q E hr hg ⟨i, S0, Os, h1, h2, h3, h4, h5⟩ => ?_)
  obtain ⟨t, t1, t2⟩ := hb i h1 cdv A outer s H S0 (InOs Os) E Q hr hg (fam_fx Sc) (fun n Γ S σ H' v q r => by
    obtain ⟨Os', g1, g2⟩ := q.own
    exact h5 n v S H' Os' q.fr q.sub q.ext q.new g1 (fun O hO a ha => g2 O hO a ha) r)
  refine ⟨t, (t1 ()).nox, t2 S0 _ H (Same.refl _) ⟨h2, Same.refl _, fun _ _ e _ => e, fun a ha => .inl ha, ⟨Os, h4, fun O hO a ha => .inl ⟨O, hO, ha⟩⟩, ?_⟩⟩
  unfold L2.start
  rw [h3.len]
  exact (slots_args h3).app (replicate_slots _)
end
/-! ### the law's end -/
theorem law_shown {P : Program} {w : World} {K : PySem.W.Frag} {mg mb : Str → Option Value} {k : Nat} {fa a : Addr} {fd : FuncData} {x : Str} {sp : Sp} {s₁ : Shared} {vs : List Value} {ns : List Int}
    (KX : K.In s₁.heap) (hns : s₁.heap.Ns mainGlobals mg) (hb : s₁.heap.Ns builtinsNs mb) (hbb : ∀ x : Str, x ≠ "__name__" → mb x = bootBuiltins x) (hlim : s₁.heap.NoLimit) (hgen : s₁.gens = #[])
    (ha : s₁.heap.get? a = some { cls := .type "list", data := .seq vs.toArray }) (hi : IntsAre vs ns) (hl : ns.length ≤ sizeLine) (hr : Room k callerA)
    (F : ∀ base : Heap, K.In base → base.Ns mainGlobals mg → FnG P w K mg base CX0 k fa fd [x] sp) (hbind : ∀ (s : Shared) (u : Value), BindsTo s fd ⟨[u], []⟩ [(x, u)])
    (hsp : ∀ H : Hp, Only H → SqL K H a (ns.map V.int) → sp [.ref a] H (fun v _ => v = .bl true) fun _ _ _ => False) :
    codeAny (model P w) callerA (.call (.ref fa) ⟨[.ref a], []⟩) (fun r s' => r = .ok (.ret (.bool true)) ∧ OldK s₁.heap s'.heap ∧ s'.os = s₁.os ∧ AllBare s'.gens) s₁ := by
  have rv := vals_ints hi
  have main : ∀ H : Hp, Only H → SqL K H a (ns.map V.int) → HOk P w H s₁.heap → (∀ b, H b ≠ none → b = a ∧ K.lookup a = none) →
      codeAny (model P w) callerA (.call (.ref fa) ⟨[.ref a], []⟩) (fun r s' => r = .ok (.ret (.bool true)) ∧ OldK s₁.heap s'.heap ∧ s'.os = s₁.os ∧ AllBare s'.gens) s₁ := fun H hO hS hok hA => by
    have free : ∀ {b : Addr}, b ≠ a → H b = none := fun {b} hne => by
      cases q : H b with
      | none => rfl
      | some u => exact absurd (hA b (by rw [q]; exact fun z => nomatch z)).1 hne
    have notA : ∀ {b : Addr} {o : Obj} {es : Array DictEntry} {ep : Nat}, s₁.heap.get? b = some o → o.data = .dict es ep → b ≠ a := fun {b o es ep} e d z => by
      subst z
      rw [ha] at e
      cases e
      exact nomatch d
    have ns' : ∀ {b : Addr} {m : Str → Option Value}, s₁.heap.Ns b m → (hidT s₁.heap H).Ns b m := fun {b m} ⟨o, es, ep, e, d, r⟩ => ⟨o, es, ep, hidT_get e (free (notA e d)), d, r⟩
    have inB : K.In (hidT s₁.heap H) := fun b o e => hidT_get (KX b o e) (by
      cases q : H b with
      | none => rfl
      | some u =>
        obtain ⟨z1, z2⟩ := hA b (by rw [q]; exact fun z => nomatch z)
        subst z1
        rw [z2] at e
        cases e)
    obtain ⟨mc, l1, l2⟩ := hlim
    have env : Env0 P w K mg (hidT s₁.heap H) callerA [] s₁ H := ⟨rfl, ⟨inB, ns' hns, ⟨mb, ns' hb, hbb⟩, ⟨mc, ns' l1, l2⟩⟩, fun b o e => of_hidT e, Nat.le_of_eq (hidT_size _ _), trivial, (fun b hb => by have hb' : b ∈ ([] : List Addr) := hb; simp at hb'), hok, .of_eq hgen⟩
    refine codeAny_mono ((F _ inB (ns' hns)).go callerA [] s₁ H ⟨[.ref a], []⟩ [.ref a] [.ref a] _ _ hr rfl env (hbind s₁ (.ref a)) (.cons rfl .nil) (hsp H hO hS)) fun r s' h => ?_
    match r, h with
    | .error _, h => exact h.elim
    | .ok .next, h => exact h.elim
    | .ok .brk, h => exact h.elim
    | .ok .cont, h => exact h.elim
    | .ok (.ret u), ⟨v, H', os, bare, un, hok', r', q⟩ =>
      obtain rfl : v = .bl true := q
      obtain rfl : u = Value.bool true := r'
      refine ⟨rfl, OldK.of_keep fun b o e => ?_, os, bare⟩
      cases q : H b with
      | none => exact un.keep b o e q (fun z => by have z' : b ∈ ([] : List Addr) := z; simp at z') (by simp)
      | some u =>
        rcases hO b with z | ⟨ob, xs, z⟩
        · rw [q] at z; cases z
        · obtain ⟨e1, _⟩ := hok b _ z
          obtain ⟨e2, _⟩ := hok' b _ (un.frzs b ob _ z)
          rw [e] at e1
          cases e1
          exact e2
  by_cases hk : K.lookup a = none
  · refine main (fun b => if b = a then some (.frz { cls := .type "list", data := .seq vs.toArray } (.lst (ns.map V.int))) else none) (fun b => ?_) (.inl (.inr ⟨{ cls := .type "list", data := .seq vs.toArray }, if_pos rfl⟩)) (fun b u z => ?_) (fun b z => ⟨?_, hk⟩)
    · by_cases e : b = a
      · exact .inr ⟨_, _, if_pos e⟩
      · exact .inl (if_neg e)
    · by_cases e : b = a
      · have z2 := (if_pos e).symm.trans z
        cases z2
        subst e
        exact ⟨ha, by rw [List.length_map]; exact hl, vs, _, rv, ha⟩
      · exact nomatch (if_neg e).symm.trans z
    · by_cases e : b = a
      · exact e
      · exact absurd (if_neg e) z
  · obtain ⟨o, ho⟩ := Option.ne_none_iff_exists'.mp hk
    have e := KX a o ho
    rw [ha] at e
    cases e
    exact main (fun _ => none) (fun _ => .inl rfl) (.inr ⟨_, vs.toArray, _, ho, rfl, rfl, rfl, by rw [List.size_toArray, hi.length]; exact hl, by simpa using rv⟩) (fun b u z => nomatch z) (fun b z => absurd rfl z)
theorem walk_shown {l : PySem.W.OpenLaw} {n k : Nat} {q : Program} {loose : List Str} {XP : (Str → Option Value) → Heap → Prop} {YP : World → Heap → Prop} {d : DefRec} {K : Params → PySem.W.Frag} {sp : World → Sp} {x : Str}
    (hn : l.most = some n) (hn2 : n ≤ sizeLine) (hdf : d.params.defaults = []) (hr : Room k callerA) (hY : ∀ (w : World) (h : Heap), YP w h → (K w.params).In h)
    (F : ∀ (w : World) (mg : Str → Option Value) (fa : Addr) (h : Heap), (K w.params).In h → h.Ns mainGlobals mg → mg d.name = some (.ref fa) →
      ∃ fd : FuncData, (∀ (s : Shared) (u : Value), BindsTo s fd ⟨[u], []⟩ [(x, u)]) ∧ ∀ base : Heap, (K w.params).In base → base.Ns mainGlobals mg → FnG l.prog w (K w.params) mg base CX0 k fa fd [x] (sp w))
    (hsp : ∀ (w : World) (H : Hp) (a : Addr) (ns : List Int), ns.length ≤ n → Only H → SqL (K w.params) H a (ns.map V.int) → sp w [.ref a] H (fun v _ => v = .bl true) fun _ _ _ => False) :
    PySem.W.WalkO q loose XP YP l.row.toRowW d [] (fun f vs => PySem.call f vs) := by
  refine Att.attach_call hn hdf fun w s₀ s₁ mg mb fa o pm cd doc a vs ns G Y ho hd hcd hmg hobj hints hlen hgen => ?_
  obtain ⟨fd, hbind, hF⟩ := F w mg fa _ (hY w _ Y) G.T.g hmg
  exact law_shown (hY w _ Y) G.T.g G.T.b G.T.builtins G.T.nolimit hgen hobj hints (Nat.le_trans hlen hn2) hr hF hbind fun H hO hS => hsp w H a ns hlen hO hS
/-! ### repr -/
def rShow (K : PySem.W.Frag) : List V → Hp → VK → Prop := fun vs H Q => ∃ (a : Addr) (d : PyData), vs = [.ref a] ∧ Dp K H (.ref a) d ∧ d.showable = true ∧ d.hasDict = false ∧ d.shown.length ≤ 16777216 ∧ d.depth ≤ 32 ∧ Q (.str d.shown) H
theorem cr_show {X : Cx} (hgd : X.A.guards = some []) (hu : X.A.units + 64 < cLine) : CallR X (.builtin "repr") (rShow X.K) := by
  intro pins s σ H vs us Q I r h
  obtain ⟨a, d, rfl, hd, hs, hnd, hsz, hdp, q⟩ := h
  obtain ⟨u, rfl, ru⟩ := vals1 r
  obtain rfl : u = Value.ref a := ru
  obtain ⟨as, hr⟩ := Dp.reads I d (.ref a) (.ref a) hd rfl
  exact repr_of_reads' hr hs (PyData.noDict_hsm hnd) hgd (by omega) (fun b o e => e) (fun h' u tk hk => ⟨.str d.shown, H, I.kept (t' := tk) hk, ⟨u, rfl⟩, q⟩) (by rw [sizeLine_eq]; exact hsz)
section
variable {ι : Type} {X : ι → Cx} {K : PySem.W.Frag} {E : Ent} {R : List Res} {s1 : Sl} {P : Program} {w : World} {mg : Str → Option Value} {base : Heap} {A : Around} {N : List Str}
theorem cl_show {k : Nat} (F : Fam X P w K mg base A N) (hr : Room k A) (hgd : A.guards = some []) {d : PyData} (h : DV K R s1 d) (href : ∀ S v, s1.r K S v → ∃ a, v = .ref a) (hs : d.showable = true) (hnd : d.hasDict = false) (hsz : d.shown.length ≤ 16777216) (hdp : d.depth ≤ 32) : ClJ X K E (.builtin "repr") R [s1] (dS d.shown) :=
  ⟨rShow K, fun n => by rw [← F.fK n]; exact cr_show (by rw [F.fA n]; exact hgd) (by rw [F.fA n]; exact hr.units), fun Γ S σ H vs Q q r k => by
    obtain ⟨v, rfl, r1⟩ := all2_one r
    obtain ⟨a, rfl⟩ := href S v r1
    exact ⟨a, d, rfl, (h E Γ S σ H _ q r1).1, hs, hnd, hsz, hdp, k _ S H (Same.refl _) q rfl⟩⟩
theorem ref_sv {p : Addr} : ∀ S v, (sv (.ref p)).r K S v → ∃ a, v = .ref a := fun S v h => ⟨p, h⟩
theorem ref_l {ds : List PyData} : ∀ S v, (sd (.list ds)).r K S v → ∃ a, v = .ref a := fun S v h => by cases h; exact ⟨_, rfl⟩
theorem ref_t {ds : List PyData} : ∀ S v, (sd (.tuple ds)).r K S v → ∃ a, v = .ref a := fun S v h => by cases h; exact ⟨_, rfl⟩
theorem ref_s {ss : List Sl} : ∀ S v, (stup ss).r K S v → ∃ a, v = .ref a := fun S v ⟨p, _, h, _⟩ => ⟨p, h⟩
end
end SL

/-! things that are shown: small ones -/
namespace SL
open PySem PySem.Spec PyProof.Rows L2
/-- data that may be shown, of weight at most n -/
structure ShD (n : Nat) (d : PyData) : Prop where
  s : d.showable = true
  h : d.hasDict = false
  l : d.leavesShort 13 = true
  w : d.weight ≤ n
structure ShA (n : Nat) (ds : List PyData) : Prop where
  s : PyData.showableAll ds = true
  h : PyData.hasDictAll ds = false
  l : PyData.leavesShortAll 13 ds = true
  w : PyData.weightAll ds ≤ n
theorem ShD.mono {n m : Nat} {d : PyData} (h : ShD n d) (hm : n ≤ m) : ShD m d := ⟨h.s, h.h, h.l, Nat.le_trans h.w hm⟩
theorem ShD.fits {n : Nat} {d : PyData} (h : ShD n d) (hn : n ≤ 2 ^ 20) : d.shown.length ≤ 16777216 := by
  have := PyData.shown_fits (by decide) (Nat.le_refl 13) h.l (Nat.le_trans h.w hn)
  rwa [sizeLine_eq] at this
theorem sh_int {i : Int} (h : i.natAbs < 10 ^ 12) : ShD 40 (.int i) := by
  have hl : i.natAbs.log2 < 40 := by
    by_cases h0 : i.natAbs = 0
    · rw [h0]; decide
    · exact (Nat.log2_lt h0).mpr (by omega)
  refine ⟨?_, rfl, ?_, ?_⟩
  · show decide (i.natAbs.log2 < 1920) = true
    exact decide_eq_true (by omega)
  · show decide ((PyData.shown (.int i)).length ≤ 13) = true
    exact decide_eq_true (PyData.shown_int_le h)
  · show (if i == 0 then 0 else i.natAbs.log2 + 1) ≤ 40
    split <;> omega
theorem sh_str {n : Nat} {x : Str} (h : ∀ c ∈ x.cps.toList, c < 16 ^ 8) (hl : x.length ≤ n) : ShD n (.str x) :=
  ⟨rfl, rfl, List.all_eq_true.mpr fun c hc => decide_eq_true (h c hc), hl⟩
theorem aln_small : ∀ c ∈ ALN.cps.toList, c < 16 ^ 8 := by decide +kernel
theorem sh_nm {x : Str} (h : nmOk x) : ShD 9 (.str x) := sh_str (fun c hc => aln_small c (h.2 c hc)) h.1
theorem sh_bool {b : Bool} : ShD 0 (.bool b) := ⟨rfl, rfl, rfl, Nat.le_refl _⟩
theorem sh_none : ShD 0 .none := ⟨rfl, rfl, rfl, Nat.le_refl _⟩
theorem sha_nil : ShA 0 [] := ⟨rfl, rfl, rfl, Nat.le_refl _⟩
theorem sha_cons {n m : Nat} {d : PyData} {ds : List PyData} (h : ShD n d) (r : ShA m ds) : ShA (n + 1 + m) (d :: ds) := by
  refine ⟨?_, ?_, ?_, ?_⟩
  · rw [PyData.showableAll, h.s, r.s]; rfl
  · rw [PyData.hasDictAll, h.h, r.h]; rfl
  · rw [PyData.leavesShortAll, h.l, r.l]; rfl
  · rw [PyData.weightAll]
    have := h.w
    have := r.w
    omega
theorem ShA.mono {n m : Nat} {ds : List PyData} (h : ShA n ds) (hm : n ≤ m) : ShA m ds := ⟨h.s, h.h, h.l, Nat.le_trans h.w hm⟩
theorem sh_tup {n : Nat} {ds : List PyData} (h : ShA n ds) : ShD n (.tuple ds) := ⟨by rw [PyData.showable]; exact h.s, by rw [PyData.hasDict]; exact h.h, by rw [PyData.leavesShort]; exact h.l, by rw [PyData.weight]; exact h.w⟩
theorem sh_list {n : Nat} {ds : List PyData} (h : ShA n ds) : ShD n (.list ds) := ⟨by rw [PyData.showable]; exact h.s, by rw [PyData.hasDict]; exact h.h, by rw [PyData.leavesShort]; exact h.l, by rw [PyData.weight]; exact h.w⟩
theorem sha_map {α : Type} {f : α → PyData} {n : Nat} : ∀ {xs : List α} {L : Nat}, (∀ x ∈ xs, ShD n (f x)) → xs.length ≤ L → ShA (L * (n + 1)) (xs.map f)
  | [], L, _, _ => sha_nil.mono (Nat.zero_le _)
  | x :: xs, 0, _, h => by simp at h
  | x :: xs, L + 1, h, hl => by
    have r := sha_map (xs := xs) (L := L) (fun y hy => h y (List.mem_cons_of_mem _ hy)) (by simpa using hl)
    refine (sha_cons (h x (List.mem_cons_self ..)) r).mono ?_
    rw [Nat.add_mul]
    omega
section
variable {ι : Type} {X : ι → Cx} {K : PySem.W.Frag} {E : Ent} {R : List Res} {s1 : Sl} {P : Program} {w : World} {mg : Str → Option Value} {base : Heap} {A : Around} {N : List Str}
theorem cl_showS {k n : Nat} (F : Fam X P w K mg base A N) (hr : Room k A) (hgd : A.guards = some []) {d : PyData} (h : DV K R s1 d) (href : ∀ S v, s1.r K S v → ∃ a, v = .ref a) (hs : ShD n d) (hdp : dep 32 d) (hn : n ≤ 2 ^ 20 := by decide) : ClJ X K E (.builtin "repr") R [s1] (dS d.shown) :=
  cl_show F hr hgd h href hs.s hs.h (hs.fits hn) hdp
theorem cl_showT {n : Nat} {x : Str} (hs : ShD n (.str x)) (hn : n ≤ 2 ^ 20 := by decide) : ClJ X K E (.builtin "repr") R [dS x] (dS (PyData.shown (.str x))) :=
  ⟨fun vs H Q => vs = [.str x] ∧ Q (.str (PyData.shown (.str x))) H, fun i pins s σ H vs us Q I r h => by
    obtain ⟨rfl, q⟩ := h
    obtain ⟨u, rfl, t, rfl⟩ := vals1 r
    have hz := hs.fits hn
    rw [PyData.shown_str] at q hz
    exact PySem.P.repr_of_str ⟨.str _, H, I.tok _, ⟨_, rfl⟩, q⟩ (by rw [sizeLine_eq]; exact hz), fun Γ S σ H vs Q q r k => by
    obtain ⟨v, rfl, r1⟩ := all2_one r
    cases (show v = .str x from r1)
    exact ⟨rfl, k _ S H (Same.refl _) q rfl⟩⟩
theorem cl_showN : ClJ X K E (.builtin "repr") R [dN] (dS (PyData.shown .none)) :=
  ⟨fun vs H Q => vs = [.non] ∧ Q (.str (PyData.shown .none)) H, fun i pins s σ H vs us Q I r h => by
    obtain ⟨rfl, q⟩ := h
    obtain ⟨u, rfl, ru⟩ := vals1 r
    obtain rfl : u = Value.none := ru
    rw [PyData.shown_none] at q
    exact PySem.P.repr_of_none ⟨.str _, H, I.tok _, ⟨_, rfl⟩, q⟩, fun Γ S σ H vs Q q r k => by
    obtain ⟨v, rfl, r1⟩ := all2_one r
    cases (show v = .non from r1)
    exact ⟨rfl, k _ S H (Same.refl _) q rfl⟩⟩
end
end SL

/-! dicts of whole numbers by names: walked by values, added to, compared -/
namespace SL
open PySem PySem.Spec PyProof.Rows L2
def dcF (ks : List Str) (f : Str → Int) : List (Str × Sl) := ks.map fun x => (x, dI (f x))
theorem lk_dcF {f : Str → Int} {x : Str} : ∀ {ks : List Str}, x ∈ ks → lk (dcF ks f) x = some (dI (f x))
  | [], h => nomatch h
  | k :: ks, h => by
    by_cases e : k = x
    · subst e; exact lk_pos rfl
    · show lk ((k, _) :: dcF ks f) x = _
      rw [lk_neg e]
      exact lk_dcF ((List.mem_cons.mp h).resolve_left fun z => e z.symm)
theorem pt_dcF {f : Str → Int} {x : Str} {v : Int} {ks : List Str} (h : x ∈ ks) : pt (dcF ks f) x (dI v) = dcF ks fun y => if y = x then v else f y := by
  unfold pt
  rw [any_lk, lk_dcF h]
  rw [if_pos (by rfl)]
  unfold dcF
  rw [List.map_map]
  refine List.map_congr_left fun y _ => ?_
  show (if y = x then (y, dI v) else (y, dI (f y))) = (y, dI (if y = x then v else f y))
  split <;> rfl
theorem dcF_len {f : Str → Int} {ks : List Str} : (dcF ks f).length = ks.length := List.length_map ..
theorem dcF_zero {ks : List Str} : allT ks (dI 0) = dcF ks fun _ => 0 := rfl
theorem dcF_eq {f g : Str → Int} {ks : List Str} (h : ∀ x ∈ ks, f x = g x) : dcF ks f = dcF ks g := by
  unfold dcF
  refine List.map_congr_left fun x hx => ?_
  rw [h x hx]
section
variable {ι : Type} {X : ι → Cx} {K : PySem.W.Frag} {E : Ent} {B : Hp} {Γ Γ' : Slots} {R R' R1 R2' R3 Ra Rb Rs : List Res} {a b c e o : Expr} {es : List Expr} {pos p' apos : Pos} {s s1 s2 s3 : Sl} {ss : List Sl}
  {P : Program} {w : World} {mg : Str → Option Value} {base : Heap} {A : Around} {N ps : List Str} {rest sts : List Stmt} {D : Ends} {S S' H H' : Hp} {σ σ' : L2.St} {f : Str} {i j : Int} {x : Str}
theorem it_vals (F : Fam X P w K mg base A N) {tg : Expr} {apos cpos : Pos} (m : Nat) {p : Addr} {od : Obj} {kvs : List (Key × V)} {kss : List (Str × Sl)} (h : EvJ X K E Γ R e R1 (sv (.ref p))) (hk : R1[m]? = some (rDz p od kvs kss))
    (hb : ∀ i, attributeBase e "values" (X i).env (eval e (X i).env) = eval e (X i).env := by exact fun _ => rfl) (hline : (apos.endLine == cpos.line) = true := by rfl) : ItJ X K E Γ R tg (.Call (.Attribute e "values" apos) [] [] cpos) R1 (kss.map (·.2)) (fun R' => R'[m]? = some (rDz p od kvs kss)) := by
  obtain ⟨t, a1, a2⟩ := h
  refine ⟨iVals t, fun i => pi_values (a1 i) (hb i) hline, fun S σ H Rk q k => a2 S σ H _ q fun v S1 H1 e1 q1 r1 => ?_⟩
  cases (show v = .ref p from r1)
  obtain ⟨O, ⟨e2, h1⟩, h2⟩ := q1.res m hk
  subst e2
  refine ⟨p, od, kvs, rfl, h2 p _ hOne_same, k _ S1 H1 e1 q1 fun n Γ' R' S' σ' H' e' q' hC => ?_⟩
  obtain ⟨O, ⟨e3, g1⟩, g2⟩ := q'.res m hC
  subst e3
  have hlen := g1.len
  refine ⟨fun s hs => ?_, fun hn => ⟨g2 p _ hOne_same, by rw [List.length_map] at hn; omega⟩⟩
  rw [List.getElem?_map] at hs
  cases e4 : kss[n]? with
  | none => rw [e4] at hs; cases hs
  | some a =>
    rw [e4] at hs
    cases hs
    obtain ⟨b, e5, e6, e7⟩ := All2.get g1 e4
    refine ⟨⟨g2 p _ hOne_same, (List.getElem?_eq_some_iff.mp e5).1⟩, fun y H'' ⟨z1, k', z2⟩ => ?_⟩
    subst z1
    rw [e5] at z2
    cases z2
    exact ⟨S', Same.refl _, q', e7⟩
/-- o[i] += e, whole numbers in a dict -/
theorem blk_daug {n : Nat} (F : Fam X P w K mg base A N) (hr : Room n A) (k : Nat) {p : Addr} {kss : List (Str × Sl)} {p2 : Pos} {value i : Expr} {u v : Int} (ho : EvJ X K E Γ R o R (sv (.ref p))) (hi : EvJ X K E Γ R i R (dS x)) (hv : EvJ X K E Γ R value R (dI v)) (hk : R[k]? = some (rDs p kss)) (hu : lk kss x = some (dI u)) (hz : kss.length < 10000000)
    (hr' : Blk X K E B Γ (R.set k (rDs p (pt kss x (dI (u + v))))) rest D) (ha : ∀ ov iv new, augStore i ov iv new = (do holding [new, ov, iv] (setItem ov iv new); release [new, ov, iv] []; pure .next) := by intros; rfl) :
    Blk X K E B Γ R (.AugAssign (.Subscript o i p2) .Add value pos :: rest) D := by
  obtain ⟨tv, v1, v2⟩ := hv
  obtain ⟨to, o1, o2⟩ := ho
  obtain ⟨ti, i1, i2⟩ := hi
  obtain ⟨t, g1, g2⟩ := hr'
  refine ⟨tSeq (sDAug to ti tv rAdd) t, fun j => pss_cons (ps_daug (by rw [F.fA j]; have := hr.units; omega) (o1 j) (i1 j) (v1 j) in_add ha) (g1 j), fun S σ H b q => ?_⟩
  refine o2 S σ H _ q fun vo S1 H1 e1 q1 r1 => i2 S1 σ H1 _ q1 fun vi S2 H2 e2 q2 r2 => ?_
  cases (show vo = .ref p from r1)
  cases (show vi = .str x from r2)
  obtain ⟨kvs, h1, h2⟩ := q2.cellD k hk
  rcases h2.val x with ⟨e, _⟩ | ⟨s', z, c1, c2, c3⟩
  · rw [hu] at e; cases e
  rw [hu] at c1
  cases c1
  cases (show z = .int u from c3)
  refine ⟨p, .int u, rfl, by rw [← c2]; exact rd_get (.inl h1) h2 x, ?_⟩
  refine v2 S2 σ H2 _ q2 fun y2 S3 H3 e3 q3 r3 => ?_
  cases (show y2 = .int v from r3)
  refine ⟨u, v, rfl, rfl, ?_⟩
  obtain ⟨kvs3, h3, h4⟩ := q3.cellD k hk
  have hlen := h4.len
  refine ⟨_, DPut.k (k := .inr x) h3 ?_, g2 S3 σ _ (b.trans ((e1.trans e2).trans e3)) (q3.putD k hk (h4.put x (show (dI (u + v)).r K S3 _ from rfl)))⟩
  have : (sizeLine : Nat) = 16777216 := sizeLine_eq
  omega
/-- dicts of whole numbers, compared -/
theorem dct_eq {S1 S2 : Hp} {l : List (Str × Int)} {kss2 : List (Str × Sl)} {k1 k2 : List (Key × V)} (h1 : KRs K S1 (onV dI l) k1) (h2 : KRs K S2 kss2 k2) (h : ∀ a ∈ l, lk kss2 a.1 = some (dI a.2)) : ∀ p ∈ k1, valV k2 p.1 = some p.2 ∧ flatB p.2 = true := by
  induction l generalizing k1 with
  | nil => cases h1; intro p hp; exact nomatch hp
  | cons a l ih =>
    cases h1 with
    | cons g t =>
      intro p hp
      rcases List.mem_cons.mp hp with z | z
      · subst z
        obtain ⟨g1, g2⟩ := g
        have g2' : p.2 = .int a.2 := g2
        rcases h2.val a.1 with ⟨c, _⟩ | ⟨s', u, c1, c2, c3⟩
        · rw [h a (List.mem_cons_self ..)] at c; cases c
        · rw [h a (List.mem_cons_self ..)] at c1
          cases c1
          have c3' : u = .int a.2 := c3
          have g1' : p.1 = .inr a.1 := g1
          rw [g1', c2, c3', g2']
          exact ⟨rfl, rfl⟩
      · exact ih t (fun b hb => h b (List.mem_cons_of_mem _ hb)) p z
theorem br_neDc {n : Nat} (F : Fam X P w K mg base A N) (hr : Room n A) (k1 k2 : Nat) {p1 p2 : Addr} {l : List (Str × Int)} {kss : List (Str × Sl)} (h1 : R[k1]? = some (rDs p1 (onV dI l))) (h2 : R[k2]? = some (rDs p2 kss)) (hl : l.length = kss.length) (h : ∀ a ∈ l, lk kss a.1 = some (dI a.2)) : BinR X K E (compareOp .NotEq) R (sv (.ref p1)) (sv (.ref p2)) (dB false) :=
  ⟨rNeDA, fun j => op_ne_dictA (by rw [F.fA j]; have := hr.units; omega), fun Γ S σ H u y Q q r1 r2 kk => by
    cases (show u = .ref p1 from r1)
    cases (show y = .ref p2 from r2)
    obtain ⟨kv1, c1, c2⟩ := q.cellD k1 h1
    obtain ⟨kv2, d1, d2⟩ := q.cellD k2 h2
    exact ⟨p1, p2, kv1, kv2, rfl, rfl, c1, d1, by rw [← c2.len, ← d2.len, ← hl]; exact List.length_map .., dct_eq c2 d2 h, kk _ S H (Same.refl _) q rfl⟩⟩
theorem dcF_on {ks : List Str} {f : Str → Int} : dcF ks f = onV dI (ks.map fun x => (x, f x)) := by
  unfold dcF onV
  rw [List.map_map]
  rfl
theorem br_neF {n : Nat} (F : Fam X P w K mg base A N) (hr : Room n A) (k1 k2 : Nat) {p1 p2 : Addr} {ks : List Str} {f g : Str → Int} (h1 : R[k1]? = some (rDs p1 (dcF ks f))) (h2 : R[k2]? = some (rDs p2 (dcF ks g))) (h : ∀ x ∈ ks, f x = g x) : BinR X K E (compareOp .NotEq) R (sv (.ref p1)) (sv (.ref p2)) (dB false) :=
  br_neDc F hr k1 k2 (by rw [h1, dcF_on]) h2 (by rw [dcF_len, List.length_map]) fun a ha => by
    obtain ⟨x, hx, rfl⟩ := List.mem_map.mp ha
    rw [lk_dcF hx, h x hx]
/-- f(e, ..), cells handed, of which some are new -/
theorem ev_callGN {θ : Type} {μ : Type} {ν : θ → Type} {pre : θ → Prop} {as : θ → List Sl} {Rs : θ → List Res} {Rn : ∀ i, ν i → List Res} {res : ∀ i, ν i → Sl} (F : Fam X P w K mg base A N) (C : Cal P w K mg base A f ps (spJ K pre as Rs Rn res)) {Rm : μ → List Res} {sm : μ → List Sl} (i : μ → θ) (Ra Rb : μ → List Res) (ha : ArN X K E Γ R (e :: es) Rm sm) (hs : ∀ m, sm m = as (i m)) (hR : ∀ m, Rm m = Ra m ++ Rs (i m) ++ Rb m) (hpre : ∀ m, pre (i m))
    (hg : ∀ i, Gl (X i) f := by exact fun _ => rfl) (he : ∀ i, starEach (e :: es) (X i).env = (false, eval e (X i).env) :: starEach es (X i).env := by exact fun _ => rfl) (hpl : ∀ i, (backTo pos (starEach es (X i).env)).any (·.1) = false := by exact fun _ => rfl) (hdb : (f == ("__debug__" : Str)) = false := by decide) :
    EvN X K E Γ R (.Call (.Name f p') (e :: es) [] pos) (fun (n : (m : μ) × ν (i m)) => Ra n.1 ++ Rn (i n.1) n.2 ++ Rb n.1) (fun n => res (i n.1) n.2) := by
  obtain ⟨CX, k, fa, fd, hF, hr, hm, hk, hb, hx⟩ := C.ex
  obtain ⟨t, a1, a2⟩ := ha
  refine ⟨tCall (spJ K pre as Rs Rn res) [] E0 t, fun j => ?_, fun S σ H Q q kk => a2 S σ H _ q fun m vs S1 H1 e1 q1 r1 => ?_⟩
  · refine pe_call (CX := CX) (k := k) (f := fa) (fd := fd) (ps := ps) (ds := []) ?_ (by rw [F.fA j]; exact hr) (hg j) (by rw [F.fmg j]; exact hm) (by rw [F.fK j]; exact hk) (by rw [F.fK j]; exact hb) .nil (hx _ (F.fP j) (F.fw j)) (a1 j) hdb (he j) (hpl j)
    rw [F.fP j, F.fw j, F.fK j, F.fmg j, F.fbase j]
    exact hF
  · rw [List.append_nil]
    rw [hR m] at q1
    rw [hs m] at r1
    obtain ⟨Os, hOs, hgive⟩ := q1.give
    exact ⟨i m, S1, Os, hpre m, q1.sub, r1, hOs, fun n v S' H' Os' hfr hsub hext hnew hown hO hres => kk ⟨m, n⟩ v S' H' (e1.trans hext) (hgive _ S' H' Os' hfr hsub hext hnew hown hO) hres⟩
end
section
variable {ι : Type} {X : ι → Cx} {K : PySem.W.Frag} {E : Ent} {Γ : Slots} {R R1 : List Res} {e : Expr} {s : Sl}
theorem ty_dict {p : Addr} {kss : List (Str × Sl)} (k : Nat) (h : R[k]? = some (rDs p kss)) : TyS K R (sv (.ref p)) "dict" := fun E Γ S σ H v q r => by
  cases (show v = .ref p from r)
  obtain ⟨kvs, h1, _⟩ := q.cellD k h
  exact .base (.dK h1)
/-- one outcome alone -/
theorem evu {Rn : Unit → List Res} {sn : Unit → Sl} (h : EvN X K E Γ R e Rn sn) : EvJ X K E Γ R e (Rn ()) (sn ()) := let ⟨t, h1, h2⟩ := h; ⟨t, h1, fun S σ H Q q k => h2 S σ H Q q fun _ => k⟩
end
/-! ### lengths -/
def leapF (f : List (Int × Str)) (m : Int × Str) : List (Int × Str) := if f = [] ∨ (f.getLastD (0, "")).1 ≠ m.1 then f ++ [m] else f
def firstsA (ms : List (Int × Str)) : List (Int × Str) := ms.foldl leapF []
def fr : Option Int → List (Int × Str) → List (Int × Str)
  | _, [] => []
  | o, m :: r => if o = some m.1 then fr o r else m :: fr (some m.1) r
def gap : Int → List (Int × Str) → Str → Int
  | _, [], _ => 0
  | a, m :: r, x => (if x = m.2 then m.1 - a else 0) + gap m.1 r x
def lastT : Int → List (Int × Str) → Int
  | a, [] => a
  | _, m :: r => lastT m.1 r
def firstN (ms : List (Int × Str)) (s : Int) : Str := match ms.find? fun m => decide (m.1 ≥ s) with
  | some m => m.2
  | none => (ms.headD (0, "")).2
def cntN (g : Int → Str) (x : Str) (lo : Int) : Nat → Int
  | 0 => 0
  | n + 1 => (if g lo = x then 1 else 0) + cntN g x (lo + 1) n
theorem firsts_fr : ∀ (ms acc : List (Int × Str)), ms.foldl leapF acc = acc ++ fr (if acc = [] then none else some (acc.getLastD (0, "")).1) ms
  | [], acc => by simp [fr]
  | m :: r, acc => by
    rw [List.foldl_cons]
    by_cases h : acc = []
    · subst h
      rw [if_pos rfl]
      show List.foldl leapF (leapF [] m) r = [] ++ fr none (m :: r)
      rw [show leapF [] m = [m] from rfl, firsts_fr r [m], if_neg (by simp)]
      simp [fr]
    · rw [if_neg h]
      by_cases h2 : (acc.getLastD (0, "")).1 = m.1
      · rw [show leapF acc m = acc from by unfold leapF; rw [if_neg (fun z => z.elim h (fun z => z h2))], firsts_fr r acc, if_neg h]
        rw [show fr (some (acc.getLastD (0, "")).1) (m :: r) = fr (some (acc.getLastD (0, "")).1) r from by rw [fr, if_pos (by rw [h2])]]
      · rw [show leapF acc m = acc ++ [m] from by unfold leapF; rw [if_pos (Or.inr h2)], firsts_fr r (acc ++ [m]), if_neg (by simp)]
        rw [show fr (some (acc.getLastD (0, "")).1) (m :: r) = m :: fr (some m.1) r from by rw [fr, if_neg (by intro z; exact h2 (Option.some.inj z))]]
        simp
theorem firsts_eq (ms : List (Int × Str)) : firstsA ms = fr none ms := by
  unfold firstsA
  rw [firsts_fr]
  simp
theorem firsts_app (pre : List (Int × Str)) (m : Int × Str) : firstsA (pre ++ [m]) = leapF (firstsA pre) m := by
  unfold firstsA
  rw [List.foldl_append]
  rfl
theorem fr_sub : ∀ (o : Option Int) (ms : List (Int × Str)), (fr o ms).Sublist ms
  | _, [] => .slnil
  | o, m :: r => by
    rw [fr]
    split
    · exact (fr_sub o r).cons m
    · exact (fr_sub _ r).cons₂ m
abbrev SortT (ms : List (Int × Str)) : Prop := ms.Pairwise fun a b => a.1 ≤ b.1
theorem fr_up : ∀ (o : Option Int) (ms : List (Int × Str)), SortT ms → (∀ t, o = some t → ∀ m ∈ ms, t ≤ m.1) → (fr o ms).Pairwise (fun a b => a.1 < b.1) ∧ ∀ t, o = some t → ∀ m ∈ fr o ms, t < m.1
  | o, [], _, _ => ⟨.nil, fun _ _ _ h => nomatch h⟩
  | o, m :: r, hs, ho => by
    obtain ⟨h1, h2⟩ := List.pairwise_cons.mp hs
    rw [fr]
    split
    · exact fr_up o r h2 fun t e m' hm' => ho t e m' (List.mem_cons_of_mem _ hm')
    · rename_i hne
      obtain ⟨g1, g2⟩ := fr_up (some m.1) r h2 fun t e m' hm' => by cases e; exact h1 m' hm'
      refine ⟨List.pairwise_cons.mpr ⟨fun b hb => g2 m.1 rfl b hb, g1⟩, fun t e m' hm' => ?_⟩
      have h3 := ho t e m (List.mem_cons_self ..)
      have h4 : t ≠ m.1 := fun z => hne (by rw [e, z])
      rcases List.mem_cons.mp hm' with z | z
      · rw [z]; omega
      · have := g2 m.1 rfl m' z
        omega
theorem fr_find (s : Int) : ∀ (o : Option Int) (ms : List (Int × Str)), SortT ms → (∀ t, o = some t → (∀ m ∈ ms, t ≤ m.1) ∧ t < s) → (fr o ms).find? (fun m => decide (m.1 ≥ s)) = ms.find? fun m => decide (m.1 ≥ s)
  | _, [], _, _ => rfl
  | o, m :: r, hs, ho => by
    obtain ⟨h1, h2⟩ := List.pairwise_cons.mp hs
    rw [fr]
    split
    · rename_i e
      have h3 := (ho _ e).2
      rw [List.find?_cons_of_neg (by simp; omega)]
      exact fr_find s o r h2 fun t e' => ⟨fun m' hm' => (ho t e').1 m' (List.mem_cons_of_mem _ hm'), (ho t e').2⟩
    · by_cases h3 : m.1 ≥ s
      · rw [List.find?_cons_of_pos (by simpa using h3), List.find?_cons_of_pos (by simpa using h3)]
      · rw [List.find?_cons_of_neg (by simpa using h3), List.find?_cons_of_neg (by simpa using h3)]
        exact fr_find s (some m.1) r h2 fun t e' => by cases e'; exact ⟨h1, by omega⟩
theorem firstN_firsts {ms : List (Int × Str)} (hs : SortT ms) (s : Int) : firstN (firstsA ms) s = firstN ms s := by
  unfold firstN
  rw [firsts_eq, fr_find s none ms hs (fun t e => nomatch e)]
  have : (fr none ms).headD (0, "") = ms.headD (0, "") := by
    cases ms with
    | nil => rfl
    | cons m r => rw [fr, if_neg (fun z => nomatch z)]; rfl
  rw [this]
theorem cnt_add (g : Int → Str) (x : Str) : ∀ (n m : Nat) (lo : Int), cntN g x lo (n + m) = cntN g x lo n + cntN g x (lo + n) m
  | 0, m, lo => by simp [cntN]
  | n + 1, m, lo => by
    rw [show n + 1 + m = (n + m) + 1 by omega, cntN, cntN, cnt_add g x n m (lo + 1), show lo + 1 + (n : Int) = lo + ((n + 1 : Nat) : Int) by omega]
    omega
theorem cnt_const {g : Int → Str} {x y : Str} : ∀ (n : Nat) (lo : Int), (∀ s, lo ≤ s → s < lo + n → g s = y) → cntN g x lo n = if x = y then (n : Int) else 0
  | 0, lo, _ => by simp [cntN]
  | n + 1, lo, h => by
    rw [cntN, cnt_const (y := y) n (lo + 1) fun s h1 h2 => h s (by omega) (by omega), h lo (by omega) (by omega)]
    by_cases e : x = y
    · rw [if_pos e, if_pos e, if_pos e.symm]; omega
    · rw [if_neg e, if_neg e, if_neg (fun z => e z.symm)]; omega
theorem cnt_congr {g g' : Int → Str} {x : Str} : ∀ (n : Nat) (lo : Int), (∀ s, lo ≤ s → s < lo + n → g s = g' s) → cntN g x lo n = cntN g' x lo n
  | 0, _, _ => rfl
  | n + 1, lo, h => by
    rw [cntN, cntN, h lo (by omega) (by omega), cnt_congr n (lo + 1) fun s h1 h2 => h s (by omega) (by omega)]
/-- the first one at s or behind it, else d -/
def upN (d : Str) (F : List (Int × Str)) (s : Int) : Str := match F.find? fun m => decide (m.1 ≥ s) with
  | some m => m.2
  | none => d
theorem upN_cons {d : Str} {m : Int × Str} {F : List (Int × Str)} {s : Int} : upN d (m :: F) s = if m.1 ≥ s then m.2 else upN d F s := by
  unfold upN
  by_cases h : m.1 ≥ s
  · rw [if_pos h, List.find?_cons_of_pos (by simpa using h)]
  · rw [if_neg h, List.find?_cons_of_neg (by simpa using h)]
theorem upN_end {d : Str} : ∀ {F : List (Int × Str)} {s : Int}, (∀ m ∈ F, m.1 < s) → upN d F s = d
  | [], _, _ => rfl
  | m :: F, s, h => by
    have := h m (List.mem_cons_self ..)
    rw [upN_cons, if_neg (by omega)]
    exact upN_end fun m' hm' => h m' (List.mem_cons_of_mem _ hm')
theorem last_ge : ∀ {F : List (Int × Str)} {a : Int}, F.Pairwise (fun a b => a.1 < b.1) → (∀ m ∈ F, a < m.1) → a ≤ lastT a F ∧ ∀ m ∈ F, m.1 ≤ lastT a F
  | [], a, _, _ => ⟨Int.le_refl _, fun _ h => nomatch h⟩
  | m :: F, a, h, ha => by
    obtain ⟨h1, h2⟩ := List.pairwise_cons.mp h
    obtain ⟨g1, g2⟩ := last_ge (a := m.1) h2 h1
    have := ha m (List.mem_cons_self ..)
    show a ≤ lastT m.1 F ∧ _
    refine ⟨by omega, fun m' hm' => ?_⟩
    show m'.1 ≤ lastT m.1 F
    rcases List.mem_cons.mp hm' with z | z
    · rw [z]; exact g1
    · exact g2 m' z
theorem gap_cnt {d x : Str} : ∀ {F : List (Int × Str)} {a : Int}, F.Pairwise (fun a b => a.1 < b.1) → (∀ m ∈ F, a < m.1) → cntN (upN d F) x (a + 1) (lastT a F - a).toNat = gap a F x
  | [], a, _, _ => by show cntN _ x _ (a - a).toNat = 0; rw [Int.sub_self]; rfl
  | m :: F, a, h, ha => by
    obtain ⟨h1, h2⟩ := List.pairwise_cons.mp h
    have hm := ha m (List.mem_cons_self ..)
    obtain ⟨g1, g2⟩ := last_ge (a := m.1) h2 h1
    show cntN _ x _ (lastT m.1 F - a).toNat = (if x = m.2 then m.1 - a else 0) + gap m.1 F x
    rw [show (lastT m.1 F - a).toNat = (m.1 - a).toNat + (lastT m.1 F - m.1).toNat by omega, cnt_add]
    rw [cnt_const (y := m.2) (m.1 - a).toNat (a + 1) fun s k1 k2 => by rw [upN_cons, if_pos (by omega)]]
    rw [show a + 1 + ((m.1 - a).toNat : Int) = m.1 + 1 by omega, cnt_congr (g' := upN d F) _ (m.1 + 1) fun s k1 k2 => by rw [upN_cons, if_neg (by omega)], gap_cnt h2 h1]
    rw [show ((m.1 - a).toNat : Int) = m.1 - a by omega]
theorem gap_app (x : Str) (m : Int × Str) : ∀ (pre : List (Int × Str)) (a : Int), gap a (pre ++ [m]) x = gap a pre x + if x = m.2 then m.1 - lastT a pre else 0
  | [], a => by simp [gap, lastT]
  | p :: pre, a => by
    rw [List.cons_append, gap, gap, gap_app x m pre p.1, lastT]
    omega
theorem lastT_app (m : Int × Str) : ∀ (pre : List (Int × Str)) (a : Int), lastT a (pre ++ [m]) = m.1
  | [], a => rfl
  | p :: pre, a => lastT_app m pre p.1
theorem lastT_d : ∀ {F : List (Int × Str)} {a : Int} {d : Int × Str}, F ≠ [] → lastT a F = (F.getLastD d).1
  | [], _, _, h => absurd rfl h
  | [m], _, _, _ => rfl
  | m :: p :: F, a, d, _ => by
    show lastT m.1 (p :: F) = _
    rw [lastT_d (d := d) (by simp)]
    rfl
/-- what the steps come to is what is counted spot by spot -/
theorem gap_all {ms : List (Int × Str)} {size : Int} (hs : SortT ms) (hne : ms ≠ []) (hb : ∀ m ∈ ms, 0 ≤ m.1 ∧ m.1 < size) (x : Str) : gap (((firstsA ms).getLastD (0, "")).1 - size) (firstsA ms) x = cntN (firstN ms) x 0 size.toNat := by
  have hup := (fr_up none ms hs fun t e => nomatch e).1
  rw [← firsts_eq] at hup
  have hmem : ∀ m ∈ firstsA ms, 0 ≤ m.1 ∧ m.1 < size := fun m hm => hb m (by rw [firsts_eq] at hm; exact (fr_sub none ms).subset hm)
  rw [cnt_congr (g' := firstN (firstsA ms)) _ _ fun s _ _ => (firstN_firsts hs s).symm]
  have hne2 : firstsA ms ≠ [] := by
    rw [firsts_eq]
    cases ms with
    | nil => exact absurd rfl hne
    | cons m r => rw [fr, if_neg (fun z => nomatch z)]; simp
  generalize firstsA ms = F at *
  cases F with
  | nil => exact absurd rfl hne2
  | cons m F =>
    have hm := hmem m (List.mem_cons_self ..)
    have h1 : ∀ p ∈ m :: F, (-1 : Int) < p.1 := fun p hp => by have := hmem p hp; omega
    obtain ⟨g1, g2⟩ := last_ge hup h1
    have hl : lastT (-1) (m :: F) < size := by
      rw [lastT_d (d := (0, "")) (by simp)]
      have : (m :: F).getLastD (0, "") ∈ m :: F := by
        rw [List.getLastD_eq_getLast?, List.getLast?_eq_some_getLast (by simp)]
        exact List.getLast_mem _
      exact (hmem _ this).2
    rw [← lastT_d (a := -1) (by simp)]
    have e1 : firstN (m :: F) = upN m.2 (m :: F) := rfl
    rw [e1, show size.toNat = (lastT (-1) (m :: F) - (-1)).toNat + (size - 1 - lastT (-1) (m :: F)).toNat by omega, cnt_add]
    have e2 := gap_cnt (d := m.2) (x := x) hup h1
    rw [show (-1 : Int) + 1 = 0 from rfl] at e2
    rw [e2, cnt_const (y := m.2) _ _ fun s k1 k2 => upN_end fun p hp => by have := g2 p hp; omega]
    rw [gap, gap]
    by_cases e : x = m.2
    · rw [if_pos e, if_pos e, if_pos e]; omega
    · rw [if_neg e, if_neg e, if_neg e]; omega
theorem cnt_snoc (g : Int → Str) (x : Str) (n : Nat) : cntN g x 0 (n + 1) = cntN g x 0 n + if g n = x then 1 else 0 := by
  rw [cnt_add]
  simp [cntN]
theorem marks_sorted {sv : List (Str × Int)} {size : Int} : SortT (marksA sv size) := by
  have := List.pairwise_mergeSort leM_trans leM_total (marksOf sv size)
  refine this.imp fun {a b} h => ?_
  unfold leM at h
  simp at h
  omega
theorem firstN_mem {ms : List (Int × Str)} (h : ms ≠ []) (s : Int) : firstN ms s ∈ ms.map (·.2) := by
  unfold firstN
  split
  · rename_i m e
    exact List.mem_map.mpr ⟨m, List.mem_of_find?_eq_some e, rfl⟩
  · cases ms with
    | nil => exact absurd rfl h
    | cons m r => simp
theorem firsts_mem {ms : List (Int × Str)} {m : Int × Str} (h : m ∈ firstsA ms) : m ∈ ms := by rw [firsts_eq] at h; exact (fr_sub none ms).subset h
theorem firsts_len (ms : List (Int × Str)) : (firstsA ms).length ≤ ms.length := by rw [firsts_eq]; exact (fr_sub none ms).length_le
theorem firsts_ne {ms : List (Int × Str)} (h : ms ≠ []) : firstsA ms ≠ [] := by
  rw [firsts_eq]
  cases ms with
  | nil => exact absurd rfl h
  | cons m r => rw [fr, if_neg (fun z => nomatch z)]; simp
end SL

/-! while; max of a list, list.count, x in a list of whole numbers; what dealing comes to -/
namespace SL
open PySem PySem.Spec PyProof.Rows L2
section
variable {ι : Type} {X : ι → Cx} {K : PySem.W.Frag} {E : Ent} {B : Hp} {Γ Γ' : Slots} {R R' R1 R2' R3 Ra Rb Rs : List Res} {a b c e o : Expr} {es : List Expr} {pos p' apos : Pos} {s s1 s2 s3 : Sl} {ss : List Sl}
  {P : Program} {w : World} {mg : Str → Option Value} {base : Heap} {A : Around} {N ps : List Str} {rest sts bd : List Stmt} {D : Ends} {S S' H H' : Hp} {σ σ' : L2.St} {f : Str} {i j : Int} {x : Str}
theorem pt_any {Y : Cx} {ν : Type} {u : ν → TT} (h : ∀ n, PT Y e (u n)) : PT Y e (fun σ H Q => ∃ n, u n σ H Q) := ⟨fun pins s σ H Q I ⟨n, q⟩ => (h n).run pins s σ H Q I q⟩
theorem blk_whileX {γ : Type} (I : γ → Prop) (μ : γ → Nat) (k : γ → Bool) (G : γ → Slots) (RR : γ → List Res) (F : Fam X P w K mg base A N) (hp : ∀ i, PassesOwn (model (X i).prog (X i).w) (X i).A (X i).env (X i).xe)
    (g0 : γ) (hI0 : I g0) (h0 : ∀ S σ H, SR K E Γ R S σ H → SR K E (G g0) (RR g0) S σ H) (hc : ∀ g, I g → TeJ X K E (G g) (RR g) c (k g))
    (hb : ∀ g B' (Z : L2.St → Hp → Prop), I g → k g = true → Blk X K E B' (G g) (RR g) bd { nx := PstX K E B' (fun g' => I g' ∧ μ g' < μ g) G RR, rt := D.rt, bk := Z, ct := PstX K E B' (fun g' => I g' ∧ μ g' < μ g) G RR })
    (hr : ∀ g, I g → k g = false → Blk X K E B (G g) (RR g) rest D) : Blk X K E B Γ R (.While c bd [] pos :: rest) D := by
  have hc' := fun (n : { g : γ // I g }) => Classical.choose_spec (hc n.1 n.2)
  have hr' := fun (n : { g : γ // I g ∧ k g = false }) => Classical.choose_spec (hr n.1 n.2.1 n.2.2)
  have hb' := fun (n : { q : γ × Hp × (L2.St → Hp → Prop) // I q.1 ∧ k q.1 = true }) => Classical.choose_spec (hb n.1.1 n.1.2.1 n.1.2.2 n.2.1 n.2.2)
  refine ⟨tSeq (tWhile _ _) _, fun i => pss_cons (ps_while (hp i) (pt_any fun n => (hc' n).1 i) (pss_any fun n => (hb' n).1 i)) (pss_any fun n => (hr' n).1 i), fun S σ H b q => ?_⟩
  refine ⟨fun m σ H => ∃ g, I g ∧ μ g = m ∧ ∃ S', Same S S' ∧ SR K E (G g) (RR g) S' σ H, ⟨μ g0, g0, hI0, rfl, S, Same.refl _, h0 S σ H q⟩, ?_⟩
  rintro m σ2 H2 ⟨g, hIg, rfl, S2, e2, q2⟩
  refine ⟨⟨g, hIg⟩, (hc' ⟨g, hIg⟩).2 S2 σ2 H2 _ q2 fun S3 H3 e3 q3 => ?_⟩
  cases hk : k g with
  | true =>
    rw [if_pos rfl]
    refine ⟨PstX K E S3 (fun g' => I g' ∧ μ g' < μ g) G RR, fun σ' H' ⟨g', ⟨hI', hμ⟩, S', e', q'⟩ => ⟨μ g', hμ, g', hI', rfl, S', (e2.trans e3).trans e', q'⟩, ?_⟩
    exact ⟨⟨(g, S3, _), hIg, hk⟩, (hb' ⟨(g, S3, _), hIg, hk⟩).2 S3 σ2 H3 (Same.refl _) q3⟩
  | false =>
    rw [if_neg (by decide)]
    exact ⟨⟨g, hIg, hk⟩, (hr' ⟨g, hIg, hk⟩).2 S3 σ2 H3 (b.trans (e2.trans e3)) q3⟩
theorem cl_maxL (F : Fam X P w K mg base A N) {ds : List PyData} {m : Int} (h : LV K R s1 ds) (ha : ds.all isI = true) (hm : m ∈ ds.map dint) (hle : ∀ y ∈ ds.map dint, y ≤ m) (hcm : ∀ i, (X i).calm = true := by exact fun _ => rfl) : ClJ X K E (.builtin "max") R [s1] (dI m) :=
  ⟨rMax K, fun n => by rw [← F.fK n]; exact cr_max (hcm n), fun Γ S σ H vs Q q r k => by
    obtain ⟨v, rfl, r1⟩ := all2_one r
    obtain ⟨p, us, rfl, h1, h2⟩ := h E Γ S σ H v q r1
    rw [da_ints ha h2] at h1
    refine ⟨p, _, rfl, SqL.of h1, ?_, fun m' h3 h4 => ?_⟩
    · exact List.length_pos_iff.mpr fun z => by rw [z] at hm; exact nomatch hm
    · have e : m' = m := by
        have a1 := h4 m hm
        have a2 := hle m' h3
        omega
      subst e
      exact k _ S H (Same.refl _) q rfl⟩
theorem ev_count (F : Fam X P w K mg base A N) {ds : List PyData} {apos : Pos} (ho : EvJ X K E Γ R o R s1) (hl : LV K R s1 ds) (had : ds.all isI = true) (ha : EvJ X K E Γ R e R (dI i))
    (hbase : ∀ i, attributeBase o "count" (X i).env (eval o (X i).env) = eval o (X i).env := by exact fun _ => rfl)
    (hfew : ∀ i, ((backTo pos (starEach [e] (X i).env)).all (fun x => !x.1) && (backToKw pos (keywordEach [] (X i).env)).all (fun x => x.1.isSome) && decide ([e].length + ([] : List Keyword).length + (if ([] : List Keyword).isEmpty then 0 else 1) < 30)) = true := by exact fun _ => rfl)
    (hline : (apos.endLine == pos.line) = true := by rfl) (hst : ∀ i, starEach [e] (X i).env = (false, eval e (X i).env) :: starEach [] (X i).env := by exact fun _ => rfl) (hplain : ∀ i, (backTo pos (starEach [] (X i).env)).any (·.1) = false := by exact fun _ => rfl) :
    EvJ X K E Γ R (.Call (.Attribute o "count" apos) [e] [] pos) R (dI ((ds.map dint).count i : Nat)) := by
  refine ev_mt F PySem.F.plainAttrs_list PySem.F.slot_list_count PySem.F.type_list_count ho (ar_cons ha ar_nil hst) ⟨rCntI K, fun n => by rw [← F.fK n]; exact mt_lcount, fun Γ S σ H v q r => tyL hl q r, fun Γ S σ H v xs Q q r1 r2 k' => ?_⟩ hbase hfew hline hst hplain
  obtain ⟨u, rfl, r3⟩ := all2_one r2
  cases (show u = .int i from r3)
  obtain ⟨p, vs, rfl, g1, g2⟩ := hl E Γ S σ H v q r1
  rw [da_ints had g2] at g1
  exact ⟨p, _, i, rfl, rfl, SqL.of g1, k' _ S H (Same.refl _) q rfl⟩
theorem inV_ints (ns : List Int) : inV (.int i) (ns.map V.int) = decide (i ∈ ns) := by
  unfold inV
  rw [List.any_map, Bool.eq_iff_iff, List.any_eq_true, decide_eq_true_eq]
  constructor
  · rintro ⟨y, hy, h⟩
    have : y = i := eq_of_beq h
    rw [← this]; exact hy
  · intro h
    exact ⟨i, h, beq_self_eq_true i⟩
theorem br_ninI (F : Fam X P w K mg base A N) {ds : List PyData} (h : LV K R s2 ds) (ha : ds.all isI = true) : BinR X K E (compareOp .NotIn) R (dI i) s2 (dB (!decide (i ∈ ds.map dint))) :=
  ⟨rIn K true, fun n => by rw [← F.fK n]; exact op_notIn_seq, fun Γ S σ H u y Q q r1 r2 k => by
    cases (show u = .int i from r1)
    obtain ⟨p, vs, rfl, h1, h2⟩ := h E Γ S σ H y q r2
    rw [da_ints ha h2] at h1
    exact ⟨p, _, rfl, .inl (SqL.of h1), rfl, List.all_eq_true.mpr fun z hz => by obtain ⟨t, _, rfl⟩ := List.mem_map.mp hz; rfl, k _ S H (Same.refl _) q (by rw [← inV_ints]; rfl)⟩⟩
/-- over a tuple of data -/
theorem it_tupD (F : Fam X P w K mg base A N) {tg : Expr} {ds : List PyData} (h : EvJ X K E Γ R e R1 (sd (.tuple ds))) : ItJ X K E Γ R tg e R1 (ds.map sl) CAny := by
  obtain ⟨t, a1, a2⟩ := h
  refine ⟨iTup K t, fun i => by rw [← F.fK i]; exact pi_tup (a1 i), fun S σ H Rk q k => a2 S σ H _ q fun v S1 H1 e1 q1 r1 => ?_⟩
  cases r1 with
  | tup h1 h2 =>
    rename_i p vs
    refine ⟨p, rfl, ⟨vs, same_t q1.sub h1⟩, k _ S1 H1 e1 q1 fun n Γ' R' S' σ' H' e' q' hC => ?_⟩
    have g1 : SqT K H' p vs := same_t q'.sub (same_t e' h1)
    have g2 := daAll_same e' h2
    refine ⟨fun s hs => ?_, fun hn => ⟨vs, g1, by rw [List.length_map] at hn; rw [daAll_len g2]; exact hn⟩⟩
    rw [List.getElem?_map] at hs
    cases e2 : ds[n]? with
    | none => rw [e2] at hs; cases hs
    | some d =>
      rw [e2] at hs
      cases hs
      obtain ⟨x, hx, hd⟩ := daAll_get' g2 e2
      refine ⟨⟨vs, x, g1, hx⟩, fun y H'' ⟨z1, z2⟩ => ?_⟩
      subst z1
      have := z2 vs g1
      rw [hx] at this
      cases this
      exact ⟨S', Same.refl _, q', sl_da.mpr hd⟩
end
/-! ### sums and greatest ones by places -/
def sumF (f : Nat → Int) : Nat → Int
  | 0 => 0
  | n + 1 => sumF f n + f n
abbrev SC : Int := 232792560
def dueF (h w g : Nat → Int) : Nat → Int
  | 0 => 0
  | n + 1 => if 0 < g n then max (dueF h w g n) ((h n + g n) * (SC / w n)) else dueF h w g n
def heavF (h w g : Nat → Int) : Nat → Int × Int
  | 0 => (0, 1)
  | n + 1 => if 0 < g n ∧ (heavF h w g n).1 * w n < (h n + g n) * (heavF h w g n).2 then (h n + g n, w n) else heavF h w g n
def belF (h w c : Nat → Int) (K : Int) (n : Nat) : Int := sumF (fun k => max 0 (min (c k) ((K - 1) / (SC / w k)) - h k)) n
theorem sumF_rng (f : Nat → Int) : ∀ n, ((List.range n).map f).sum = sumF f n
  | 0 => rfl
  | n + 1 => by rw [List.range_succ, List.map_append, List.sum_append, sumF_rng f n]; simp [sumF]
theorem sumF_le {f g : Nat → Int} : ∀ {n}, (∀ k, k < n → f k ≤ g k) → sumF f n ≤ sumF g n
  | 0, _ => Int.le_refl _
  | n + 1, h => by
    have a := sumF_le (n := n) fun k hk => h k (by omega)
    have b := h n (by omega)
    show sumF f n + f n ≤ sumF g n + g n
    omega
theorem sumF_congr {f g : Nat → Int} : ∀ {n}, (∀ k, k < n → f k = g k) → sumF f n = sumF g n
  | 0, _ => rfl
  | n + 1, h => by
    show sumF f n + f n = sumF g n + g n
    rw [sumF_congr fun k hk => h k (by omega), h n (by omega)]
theorem sumF_zero : ∀ n, sumF (fun _ => 0) n = 0
  | 0 => rfl
  | n + 1 => by show sumF _ n + 0 = 0; rw [sumF_zero n]; rfl
/-- but for one place -/
theorem sumF_one {f g : Nat → Int} {p : Nat} : ∀ {n}, (∀ k, k < n → k ≠ p → f k ≤ g k) → f p ≤ g p + 1 → sumF f n ≤ sumF g n + if p < n then 1 else 0
  | 0, _, _ => by simp [sumF]
  | n + 1, h, hp => by
    have a := sumF_one (n := n) (fun k hk => h k (by omega)) hp
    show sumF f n + f n ≤ sumF g n + g n + _
    by_cases e : n = p
    · subst e
      rw [if_neg (by omega)] at a
      rw [if_pos (by omega)]
      omega
    · have b := h n (by omega) e
      by_cases e2 : p < n
      · rw [if_pos e2] at a; rw [if_pos (by omega)]; omega
      · rw [if_neg e2] at a; rw [if_neg (by omega)]; omega
theorem sumF_put (f : Nat → Int) (p : Nat) : ∀ n, sumF (fun k => if k = p then f k + 1 else f k) n = sumF f n + if p < n then 1 else 0
  | 0 => by simp [sumF]
  | n + 1 => by
    show sumF _ n + (if n = p then f n + 1 else f n) = sumF f n + f n + _
    rw [sumF_put f p n]
    by_cases e : n = p
    · subst e
      rw [if_neg (by omega), if_pos rfl, if_pos (by omega)]; omega
    · rw [if_neg e]
      by_cases e2 : p < n
      · rw [if_pos e2, if_pos (by omega)]; omega
      · rw [if_neg e2, if_neg (by omega)]; omega
theorem map_sumF {α : Type} (t : α → Int) (d : α) (l : List α) : (l.map t).sum = sumF (fun k => t (l.getD k d)) l.length := by
  rw [← sumF_rng]
  congr 1
  apply List.ext_getElem
  · simp
  · intro i h1 h2
    simp at h1 h2 ⊢
    rw [List.getElem?_eq_getElem h1]
    rfl
theorem dueF_nn {h w g : Nat → Int} : ∀ n, 0 ≤ dueF h w g n
  | 0 => Int.le_refl _
  | n + 1 => by
    have := dueF_nn (h := h) (w := w) (g := g) n
    show 0 ≤ if 0 < g n then max (dueF h w g n) ((h n + g n) * (SC / w n)) else dueF h w g n
    split <;> omega
theorem dueF_ge {h w g : Nat → Int} : ∀ {n k}, k < n → 0 < g k → (h k + g k) * (SC / w k) ≤ dueF h w g n
  | 0, k, hk, _ => nomatch hk
  | n + 1, k, hk, hg => by
    show _ ≤ if 0 < g n then max (dueF h w g n) ((h n + g n) * (SC / w n)) else dueF h w g n
    by_cases e : k = n
    · subst e; rw [if_pos hg]; omega
    · have := dueF_ge (h := h) (w := w) (g := g) (n := n) (k := k) (by omega) hg
      split <;> omega
theorem dueF_at {h w g : Nat → Int} : ∀ n, dueF h w g n = 0 ∨ ∃ k, k < n ∧ 0 < g k ∧ dueF h w g n = (h k + g k) * (SC / w k)
  | 0 => .inl rfl
  | n + 1 => by
    have e : dueF h w g (n + 1) = if 0 < g n then max (dueF h w g n) ((h n + g n) * (SC / w n)) else dueF h w g n := rfl
    rw [e]
    by_cases hg : 0 < g n
    · rw [if_pos hg]
      rcases Int.le_total (dueF h w g n) ((h n + g n) * (SC / w n)) with z | z
      · exact .inr ⟨n, by omega, hg, by omega⟩
      · rw [Int.max_eq_left z]
        rcases dueF_at (h := h) (w := w) (g := g) n with a | ⟨k, a, b, c⟩
        · exact .inl a
        · exact .inr ⟨k, by omega, b, c⟩
    · rw [if_neg hg]
      rcases dueF_at (h := h) (w := w) (g := g) n with a | ⟨k, a, b, c⟩
      · exact .inl a
      · exact .inr ⟨k, by omega, b, c⟩
theorem heavF_ok {h w g : Nat → Int} (h0 : ∀ k, 0 ≤ h k) : ∀ {n}, (∀ k, k < n → 1 ≤ w k ∧ w k ≤ 20) → (heavF h w g n).1 * (SC / (heavF h w g n).2) = dueF h w g n ∧ (1 ≤ (heavF h w g n).2 ∧ (heavF h w g n).2 ≤ 20) ∧ 0 ≤ (heavF h w g n).1
  | 0, _ => ⟨by show (0 : Int) * _ = 0; rw [Int.zero_mul], ⟨by show (1 : Int) ≤ 1; omega, by show (1 : Int) ≤ 20; omega⟩, Int.le_refl _⟩
  | n + 1, hw => by
    obtain ⟨a1, a2, a3⟩ := heavF_ok (g := g) h0 (n := n) fun k hk => hw k (by omega)
    have hwn := hw n (by omega)
    have e1 : heavF h w g (n + 1) = if 0 < g n ∧ (heavF h w g n).1 * w n < (h n + g n) * (heavF h w g n).2 then (h n + g n, w n) else heavF h w g n := rfl
    have e2 : dueF h w g (n + 1) = if 0 < g n then max (dueF h w g n) ((h n + g n) * (SC / w n)) else dueF h w g n := rfl
    have hs : (heavF h w g n).1 * (SC / (heavF h w g n).2) < (h n + g n) * (SC / w n) ↔ (heavF h w g n).1 * w n < (h n + g n) * (heavF h w g n).2 := scale_lt (a := (heavF h w g n).1) (b := h n + g n) a2 hwn
    rw [e1, e2]
    by_cases hg : 0 < g n
    · rw [if_pos hg]
      by_cases hl : (heavF h w g n).1 * w n < (h n + g n) * (heavF h w g n).2
      · rw [if_pos ⟨hg, hl⟩]
        have := hs.mpr hl
        rw [a1] at this
        exact ⟨by show (h n + g n) * (SC / w n) = _; rw [Int.max_eq_right (Int.le_of_lt this)], hwn, by have := h0 n; show 0 ≤ h n + g n; omega⟩
      · rw [if_neg fun z => hl z.2]
        have : ¬ _ := fun z => hl (hs.mp z)
        rw [a1] at this
        exact ⟨by rw [a1, Int.max_eq_left (by omega)], a2, a3⟩
    · rw [if_neg fun z => hg z.1, if_neg hg]
      exact ⟨a1, a2, a3⟩
theorem heavF_none {h w g : Nat → Int} : ∀ {n}, (∀ k, k < n → ¬ 0 < g k) → heavF h w g n = (0, 1)
  | 0, _ => rfl
  | n + 1, hg => by
    have e1 : heavF h w g (n + 1) = if 0 < g n ∧ (heavF h w g n).1 * w n < (h n + g n) * (heavF h w g n).2 then (h n + g n, w n) else heavF h w g n := rfl
    rw [e1, if_neg fun z => hg n (by omega) z.1]
    exact heavF_none fun k hk => hg k (by omega)
theorem all_zero {g : Nat → Int} : ∀ {n}, (∀ k, k < n → 0 ≤ g k) → sumF g n = 0 → ∀ k, k < n → ¬ 0 < g k
  | 0, _, _, k, hk => nomatch hk
  | n + 1, h0, hs, k, hk => by
    have a : 0 ≤ sumF g n := by have := sumF_le (f := fun _ => 0) (g := g) (n := n) fun k hk => h0 k (by omega); rw [sumF_zero] at this; exact this
    have b := h0 n (by omega)
    have hs : sumF g n + g n = 0 := hs
    by_cases e : k = n
    · subst e; omega
    · exact all_zero (n := n) (fun k hk => h0 k (by omega)) (by omega) k (by omega)
/-! the dealing -/
theorem step_least {now ws caps : List Int} (hw : ∀ k, k < now.length → 1 ≤ ws.getD k 0 ∧ ws.getD k 0 ≤ 20) : ∀ (l : List Nat) (best : Option Nat), (∀ k ∈ l, k < now.length) → (∀ b, best = some b → b < now.length) → ∀ p, l.foldl (stepD now ws caps) best = some p →
    (∀ k ∈ l, now.getD k 0 < caps.getD k 0 → keyD now ws p ≤ keyD now ws k) ∧ ∀ b, best = some b → keyD now ws p ≤ keyD now ws b
  | [], best, _, _, p, h => ⟨fun _ hk => (nomatch hk), fun b hb => by
      rw [hb] at h
      cases h
      exact Int.le_refl _⟩
  | k :: l, best, hl, hbest, p, h => by
    rw [List.foldl_cons] at h
    have hkn := hl k (List.mem_cons_self ..)
    have hst : ∀ b, stepD now ws caps best k = some b → b < now.length := fun b hb => by
      unfold stepD at hb
      split at hb
      · cases best with
        | none => cases hb; exact hkn
        | some b' =>
          simp only at hb
          split at hb
          · cases hb; exact hkn
          · cases hb; exact hbest _ rfl
      · exact hbest b hb
    obtain ⟨g1, g2⟩ := step_least hw l _ (fun k' hk' => hl k' (List.mem_cons_of_mem _ hk')) hst p h
    by_cases hroom : now.getD k 0 < caps.getD k 0
    · cases best with
      | none =>
        have e : stepD now ws caps none k = some k := by unfold stepD; rw [if_pos hroom]
        have h1 := g2 k e
        exact ⟨fun k' hk' hr' => (List.mem_cons.mp hk').elim (fun z => z ▸ h1) fun z => g1 k' z hr', fun b hb => (nomatch hb)⟩
      | some b =>
        have hbn := hbest b rfl
        have hs := scale_lt (a := now.getD k 0 + 1) (b := now.getD b 0 + 1) (hw k hkn) (hw b hbn)
        by_cases hlt : (now.getD k 0 + 1) * ws.getD b 0 < (now.getD b 0 + 1) * ws.getD k 0
        · have e : stepD now ws caps (some b) k = some k := by unfold stepD; rw [if_pos hroom]; exact if_pos hlt
          have h1 := g2 k e
          have h2 := hs.mpr hlt
          refine ⟨fun k' hk' hr' => (List.mem_cons.mp hk').elim (fun z => z ▸ h1) fun z => g1 k' z hr', fun b' hb' => ?_⟩
          cases hb'
          unfold keyD at h1 ⊢
          omega
        · have e : stepD now ws caps (some b) k = some b := by unfold stepD; rw [if_pos hroom]; exact if_neg hlt
          have h1 := g2 b e
          have h2 : ¬ _ := fun z => hlt (hs.mp z)
          refine ⟨fun k' hk' hr' => (List.mem_cons.mp hk').elim (fun z => ?_) fun z => g1 k' z hr', fun b' hb' => by cases hb'; exact h1⟩
          subst z
          unfold keyD at h1 ⊢
          omega
    · have e : stepD now ws caps best k = best := by unfold stepD; rw [if_neg hroom]
      refine ⟨fun k' hk' hr' => (List.mem_cons.mp hk').elim (fun z => absurd (z ▸ hr') hroom) fun z => g1 k' z hr', fun b hb => g2 b (by rw [e, hb])⟩
theorem next_least {now ws caps : List Int} (hw : ∀ k, k < now.length → 1 ≤ ws.getD k 0 ∧ ws.getD k 0 ≤ 20) {p : Nat} (h : nextD now ws caps = some p) {k : Nat} (hk : k < now.length) (hr : now.getD k 0 < caps.getD k 0) : keyD now ws p ≤ keyD now ws k :=
  (step_least hw (List.range now.length) none (fun k hk => List.mem_range.mp hk) (fun _ z => nomatch z) p h).1 k (List.mem_range.mpr hk) hr
def ato (l : List Int) : Nat → Int := fun k => l.getD k 0
theorem ato_set {l : List Int} {p : Nat} {z : Int} (hp : p < l.length) (k : Nat) : ato (l.set p z) k = if k = p then z else ato l k := by
  unfold ato
  by_cases e : k = p
  · subst e; rw [if_pos rfl]; simp [List.getD_eq_getElem?_getD, hp]
  · rw [if_neg e]; simp [List.getD_eq_getElem?_getD, List.getElem?_set_ne (fun z => e z.symm)]
/-- where one place's load as it is at the end is the mark, fewer have room below it than were dealt -/
theorem deal_below {ws caps : List Int} : ∀ (m : Nat) (now : List Int) (j : Nat), (∀ k, k < now.length → 1 ≤ ws.getD k 0 ∧ ws.getD k 0 ≤ 20) → 0 < (dealD ws caps m now).count j →
    belF (ato now) (ato ws) (ato caps) ((ato now j + ((dealD ws caps m now).count j : Nat)) * (SC / ato ws j)) now.length ≤ m - 1
  | 0, now, j, _, h => by simp [dealD] at h
  | m + 1, now, j, hw, h => by
    cases e : nextD now ws caps with
    | none => simp [dealD, e] at h
    | some p =>
      obtain ⟨hp1, hp2⟩ := next_in e
      have ed : dealD ws caps (m + 1) now = p :: dealD ws caps m (now.set p (now.getD p 0 + 1)) := by simp [dealD, e]
      rw [ed] at h ⊢
      have hlen : (now.set p (now.getD p 0 + 1)).length = now.length := List.length_set ..
      by_cases hj : 0 < (dealD ws caps m (now.set p (now.getD p 0 + 1))).count j
      · have ih := deal_below m (now.set p (now.getD p 0 + 1)) j (by rw [hlen]; exact hw) hj
        rw [hlen] at ih
        have ekey : ato (now.set p (now.getD p 0 + 1)) j + ((dealD ws caps m (now.set p (now.getD p 0 + 1))).count j : Nat) = ato now j + ((p :: dealD ws caps m (now.set p (now.getD p 0 + 1))).count j : Nat) := by
          rw [ato_set hp1, List.count_cons]
          by_cases ej : j = p
          · subst ej
            rw [if_pos rfl]
            simp [ato]
            omega
          · rw [if_neg ej]
            have : (p == j) = false := by simp; exact fun z => ej z.symm
            rw [this]
            simp
        rw [ekey] at ih
        generalize (ato now j + ((p :: dealD ws caps m (now.set p (now.getD p 0 + 1))).count j : Nat)) * (SC / ato ws j) = Kk at ih ⊢
        have := sumF_one (n := now.length) (p := p) (f := fun k => max 0 (min (ato caps k) ((Kk - 1) / (SC / ato ws k)) - ato now k)) (g := fun k => max 0 (min (ato caps k) ((Kk - 1) / (SC / ato ws k)) - ato (now.set p (now.getD p 0 + 1)) k)) (fun k _ hk => by simp only [ato_set hp1, if_neg hk]; exact Int.le_refl _) (by
          simp only [ato_set hp1, if_true]
          simp only [ato]
          omega)
        rw [if_pos hp1] at this
        unfold belF at ih ⊢
        push_cast
        omega
      · have h0 : (dealD ws caps m (now.set p (now.getD p 0 + 1))).count j = 0 := by omega
        rw [List.count_cons, h0] at h ⊢
        have ej : p = j := by
          by_cases z : p = j
          · exact z
          · simp [z] at h
        subst ej
        have hz : belF (ato now) (ato ws) (ato caps) ((ato now p + ((0 + if (p == p) = true then 1 else 0 : Nat) : Int)) * (SC / ato ws p)) now.length ≤ sumF (fun _ => 0) now.length := by
          refine sumF_le fun k hk => ?_
          have hk20 := hw k hk
          by_cases hr : now.getD k 0 < caps.getD k 0
          · have h1 := next_least hw e hk hr
            have hd : 0 < SC / ato ws k := by
              have := div_exact hk20.1 hk20.2
              have h3 : (SC / ato ws k) * ato ws k = SC := this
              by_cases hn : 0 < SC / ato ws k
              · exact hn
              · have h4 : (SC / ato ws k) * ato ws k ≤ 0 := Int.mul_nonpos_of_nonpos_of_nonneg (by omega) (by have : 1 ≤ ato ws k := hk20.1; omega)
                rw [h3] at h4
                exact absurd h4 (by decide)
            have h2 : ((ato now p + ((0 + if (p == p) = true then 1 else 0 : Nat) : Int)) * (SC / ato ws p) - 1) / (SC / ato ws k) < ato now k + 1 := by
              refine Int.ediv_lt_of_lt_mul hd ?_
              have h1' : (ato now p + 1) * (SC / ato ws p) ≤ (ato now k + 1) * (SC / ato ws k) := h1
              simp
              omega
            show max 0 (min _ _ - _) ≤ 0
            omega
          · have hr' : ¬ ato now k < ato caps k := hr
            show max 0 (min _ _ - _) ≤ 0
            omega
        rw [sumF_zero] at hz
        push_cast at hz ⊢
        omega
theorem deal_full {ws caps : List Int} : ∀ (m : Nat) (now : List Int), now.length ≤ caps.length → (m : Int) ≤ roomD now caps → (dealD ws caps m now).length = m ∧ ∀ p ∈ dealD ws caps m now, p < now.length
  | 0, now, _, _ => ⟨rfl, fun _ h => nomatch h⟩
  | m + 1, now, hl, h => by
    obtain ⟨p, e, hp1, hp2⟩ := next_some (ws := ws) (now := now) (caps := caps) (by omega)
    have ed : dealD ws caps (m + 1) now = p :: dealD ws caps m (now.set p (now.getD p 0 + 1)) := by simp [dealD, e]
    have hlen : (now.set p (now.getD p 0 + 1)).length = now.length := List.length_set ..
    obtain ⟨a, b⟩ := deal_full (ws := ws) (caps := caps) m (now.set p (now.getD p 0 + 1)) (by omega) (by rw [room_set hl hp1 hp2]; omega)
    rw [ed]
    refine ⟨by rw [List.length_cons, a], fun q hq => ?_⟩
    rcases List.mem_cons.mp hq with z | z
    · rw [z]; exact hp1
    · have := b q z; omega
theorem sum_count : ∀ (l : List Nat) (n : Nat), (∀ p ∈ l, p < n) → sumF (fun k => (l.count k : Nat)) n = l.length
  | [], n, _ => by simp [sumF_zero]
  | p :: l, n, h => by
    have e : sumF (fun k => ((p :: l).count k : Nat)) n = sumF (fun k => if k = p then ((l.count k : Nat) : Int) + 1 else (l.count k : Nat)) n := sumF_congr fun k _ => by
      show (((p :: l).count k : Nat) : Int) = _
      rw [List.count_cons]
      by_cases z : k = p
      · subst z; simp
      · have : (p == k) = false := by simp; exact fun y => z y.symm
        rw [this, if_neg z]
        simp
    rw [e, sumF_put (fun k => ((l.count k : Nat) : Int)) p n, sum_count l n fun q hq => h q (List.mem_cons_of_mem _ hq), if_pos (h p (List.mem_cons_self ..))]
    simp
end SL

/-! comprehensions over what a call hands back -/
namespace SL
open PySem PySem.Spec PyProof.Rows L2
section
variable {ι : Type} {X : ι → Cx} {K : PySem.W.Frag} {E : Ent} {B : Hp} {Γ Γ' : Slots} {R R' R2' R3 Ra Rb Rs : List Res} {a b c e o : Expr} {es : List Expr} {pos p' apos : Pos} {s s1 s2 s3 : Sl} {ss : List Sl}
  {P : Program} {w : World} {mg : Str → Option Value} {base : Heap} {A : Around} {N ps : List Str} {rest sts bd : List Stmt} {D : Ends} {S S' H H' : Hp} {σ σ' : L2.St} {f : Str} {i j : Int} {x : Str}
def ItN {ν : Type} (X : ι → Cx) (K : PySem.W.Frag) (E : Ent) (Γ : Slots) (R : List Res) (tg iter : Expr) (R1 : ν → List Res) (items : ν → List Sl) (C : ν → List Res → Prop) : Prop :=
  ∃ wi : TI, (∀ i, PI (X i) tg iter wi) ∧ ∀ S σ H (Rk : It → Hp → Prop), SR K E Γ R S σ H →
    (∀ m J S1 H1, Same S S1 → SR K E Γ (R1 m) S1 σ H1 →
      (∀ (n : Nat) Γ' R' S' σ' H', Same S1 S' → SR K E Γ' R' S' σ' H' → C m R' →
        (∀ s, (items m)[n]? = some s → J.go n H' ∧ ∀ x H'', J.yld n H' x H'' → ∃ S'', Same S' S'' ∧ SR K E Γ' R' S'' σ' H'' ∧ s.r K S'' x) ∧ ((items m).length ≤ n → J.stop n H')) → Rk J H1) → wi σ H Rk
theorem it_lsN {ν : Type} {Rn : ν → List Res} {sn : ν → Sl} (F : Fam X P w K mg base A N) {tg : Expr} {ds : ν → List PyData} {C : ν → List Res → Prop} (h : EvN X K E Γ R e Rn sn) (hl : ∀ m, LS K E (Rn m) (sn m) (ds m) (C m)) : ItN X K E Γ R tg e Rn (fun m => (ds m).map sl) C := by
  obtain ⟨t, a1, a2⟩ := h
  refine ⟨iList K t, fun i => by rw [← F.fK i]; exact pi_list (a1 i), fun S σ H Rk q k => a2 S σ H _ q fun m v S1 H1 e1 q1 r1 => ?_⟩
  obtain ⟨p, rfl, h1, h2⟩ := hl m Γ S1 σ H1 v q1 r1
  refine ⟨p, rfl, h1, k m _ S1 H1 e1 q1 fun n Γ' R' S' σ' H' e' q' hC => ?_⟩
  obtain ⟨vs, g1, g2⟩ := h2 Γ' R' S' σ' H' e' q' hC
  refine ⟨fun s hs => ?_, fun hn => ⟨vs, g1, by rw [List.length_map] at hn; rw [daAll_len g2]; exact hn⟩⟩
  rw [List.getElem?_map] at hs
  cases e2 : (ds m)[n]? with
  | none => rw [e2] at hs; cases hs
  | some d =>
    rw [e2] at hs
    cases hs
    obtain ⟨x, hx, hd⟩ := daAll_get' g2 e2
    refine ⟨⟨vs, x, g1, hx⟩, fun y H'' ⟨z1, z2⟩ => ?_⟩
    subst z1
    cases sqL_same (ys := vs) (xs := vs) z2 g1 hx
    exact ⟨S', Same.refl _, q', sl_da.mpr hd⟩
theorem lc_jN {ν α : Type} {R1 : ν → List Res} {tg iter elt : Expr} {ifs : List Expr} {scope : Scope} {own : List (Str × Nat)} {C : ν → List Res → Prop} {us : List Nat} {xs : ν → List α} {it : α → Sl} {up : α → Slots → Slots} {k : α → Bool} {d : α → PyData} {se : α → Sl} {items : ν → List Sl}
    (F : Fam X P w K mg base A N) (hi : ItN X K E Γ R tg iter R1 items C) (hit : ∀ m, items m = (xs m).map it) (ok : ∀ i, BlkOk (X i).N (X i).env.scope scope own)
    (htg : Fam (BX X scope) P w K mg base A N → TgA (BX X scope) K E tg it up us) (hu : ∀ j ∈ us, j ∈ own.map (·.2))
    (hC : ∀ m D acc, C m (R1 m ++ [rL D acc])) (ht : Fam (BX X scope) P w K mg base A N → ∀ m D acc, ∀ x ∈ xs m, TsJ (BX X scope) K E (up x (wipeG Γ (own.map (·.2)))) (R1 m ++ [rL D acc]) ifs (k x))
    (he : Fam (BX X scope) P w K mg base A N → ∀ m D acc, ∀ x ∈ xs m, k x = true → EvJ (BX X scope) K E (up x (wipeG Γ (own.map (·.2)))) (R1 m ++ [rL D acc]) elt (R1 m ++ [rL D acc]) (se x)) (hd : ∀ x, k x = true → ∀ K S v, (se x).r K S v → Da K S v (d x))
    (hz : ∀ m, (xs m).length ≤ 1000000) (hs : ∀ i x, foldedSetIterable iter (X i).env x = pure x := by exact fun _ _ => rfl) (hcm : ∀ i, (X i).calm = true := by exact fun _ => rfl) :
    EvN X K E Γ R (.ListComp elt [⟨tg, iter, ifs, 0⟩] scope pos) (fun p : ν × Addr => R1 p.1 ++ [rL p.2 (((xs p.1).filter k).map d)]) (fun p => sv (.ref p.2)) := by
  obtain rfl : items = fun m => (xs m).map it := funext hit
  have htg := htg (fam_blk F)
  have ht := ht (fam_blk F)
  have he := he (fam_blk F)
  obtain ⟨wi, w1, w2⟩ := hi
  obtain ⟨g, t1, t2⟩ := htg
  have ht' := fun (n : { q : ν × Addr × List PyData × α // q.2.2.2 ∈ xs q.1 }) => Classical.choose_spec (ht n.1.1 n.1.2.1 n.1.2.2.1 n.1.2.2.2 n.2)
  have he' := fun (n : { q : ν × Addr × List PyData × α // q.2.2.2 ∈ xs q.1 ∧ k q.2.2.2 = true }) => Classical.choose_spec (he n.1.1 n.1.2.1 n.1.2.2.1 n.1.2.2.2 n.2.1 n.2.2)
  refine ⟨tLc wi g _ _ (own.map (·.2)), fun i => pe_lc (hcm i) (by rw [F.fN i]; exact F.nd) (w1 i) (ok i) (fun s H C cl fp => t1 ⟨i, s, H, C, cl, fp⟩) (fun s H C cl fp => pts_any fun n => (ht' n).1 ⟨i, s, H, C, cl, fp⟩) (fun s H C cl fp => pe_any fun n => (he' n).1 ⟨i, s, H, C, cl, fp⟩) (hs i), fun S σ H Q q kk => ?_⟩
  refine w2 S σ H _ q fun μ J S1 H1 e1 q1 hJ D hD => ?_
  refine ⟨fun n m H => m = (xs μ).length - n ∧ n ≤ (xs μ).length ∧ ∃ S', Same S1 S' ∧ SR K E Γ (R1 μ ++ [rL D ((((xs μ).take n).filter k).map d)]) S' σ H, ⟨(xs μ).length, by simp, Nat.zero_le _, S1, Same.refl _, q1.mine hD ⟨[], rfl, .nil⟩⟩, ?_⟩
  rintro n m H2 ⟨rfl, hn, S2, e2, q2⟩
  obtain ⟨g1, g2⟩ := hJ n _ _ S2 σ H2 e2 q2 (hC _ _ _)
  have hzμ := hz μ
  by_cases hlt : n < (xs μ).length
  · have hx : (xs μ)[n]? = some (xs μ)[n] := List.getElem?_eq_getElem hlt
    have hm : (xs μ)[n] ∈ xs μ := List.getElem_mem hlt
    have htake : (xs μ).take (n + 1) = (xs μ).take n ++ [(xs μ)[n]] := by rw [List.take_succ, hx]; rfl
    obtain ⟨go, hy⟩ := g1 (it (xs μ)[n]) (by rw [List.getElem?_map, hx]; rfl)
    refine .inr ⟨go, fun H' => ∃ S', Same S1 S' ∧ SR K E Γ (R1 μ ++ [rL D ((((xs μ).take (n + 1)).filter k).map d)]) S' σ H', fun H' h' => ⟨(xs μ).length - (n + 1), by omega, rfl, hlt, h'⟩, fun x H' hx' => ?_⟩
    obtain ⟨S3, e3, q3, r3⟩ := hy x H' hx'
    apply t2 (xs μ)[n] _ _ S3 (wipe σ (own.map (·.2))) H' x _ (q3.reslot (wipe_slots _ q3.slots)) r3
    intro σ4 q4 o4 l4
    refine ⟨wipe_eq o4 l4 hu, ?_⟩
    refine ⟨⟨(μ, D, (((xs μ).take n).filter k).map d, (xs μ)[n]), hm⟩, (ht' ⟨(μ, D, (((xs μ).take n).filter k).map d, (xs μ)[n]), hm⟩).2 S3 σ4 H' _ q4 fun S5 H5 e5 q5 => ?_⟩
    have q5' : SR K E Γ (R1 μ ++ [rL D ((((xs μ).take n).filter k).map d)]) S5 σ H5 := q5.reslot (slots_mono e5 q3.slots)
    cases hk : k (xs μ)[n] with
    | false =>
      refine iteF ⟨S5, (e2.trans e3).trans e5, ?_⟩
      rw [htake, List.filter_append, List.filter_cons, if_neg (by rw [hk]; exact Bool.false_ne_true), List.filter_nil, List.append_nil]
      exact q5'
    | true =>
      refine iteT ⟨⟨(μ, D, (((xs μ).take n).filter k).map d, (xs μ)[n]), hm, hk⟩, (he' ⟨(μ, D, (((xs μ).take n).filter k).map d, (xs μ)[n]), hm, hk⟩).2 S5 σ4 H5 _ q5 fun y S6 H6 e6 q6 r6 => ?_⟩
      have q6' : SR K E Γ (R1 μ ++ [rL D ((((xs μ).take n).filter k).map d)]) S6 σ H6 := q6.reslot (slots_mono e6 q5'.slots)
      obtain ⟨O, ⟨acc, eO, hacc⟩, sO⟩ := q6'.res (R1 μ).length get_last
      subst eO
      refine ⟨acc, sO D _ hOne_same, ?_, S6, ((e2.trans e3).trans e5).trans e6, ?_⟩
      · rw [daAll_len hacc, List.length_map]
        have h1 := List.length_filter_le k ((xs μ).take n)
        rw [List.length_take] at h1
        have : (sizeLine : Nat) = 16777216 := sizeLine_eq
        omega
      · rw [htake, List.filter_append, List.filter_cons, if_pos (by rw [hk]), List.filter_nil, List.map_append]
        have := q6'.putL (R1 μ).length get_last (daAll_app hacc (.cons (hd _ hk K S6 y r6) .nil))
        rw [set_last] at this
        exact this
  · have e : n = (xs μ).length := by omega
    subst e
    rw [List.take_length] at q2
    exact .inl ⟨g2 (by rw [List.length_map]; exact Nat.le_refl _), kk (μ, D) _ S2 H2 (e1.trans e2) q2 rfl⟩
theorem te_cmpN {ν : Type} {Rn : ν → List Res} {sn : ν → Sl} {op : CmpOp} {k : Bool} (ha : EvJ X K E Γ R a R s1) (hb : EvN X K E Γ R b (fun n => R ++ Rn n) sn) (ho : ∀ n, BinR X K E (compareOp op) (R ++ Rn n) s1 (sn n) (sv (.bl k))) (hm : behindInMarks op b = false := by first | exact nomark _ | with_unfolding_all rfl) : TeJ X K E Γ R (.Compare a [op] [b] pos) k := by
  obtain ⟨ta, a1, a2⟩ := ha
  obtain ⟨tb, b1, b2⟩ := hb
  have ho' := fun n => Classical.choose_spec (ho n)
  refine ⟨tTest (tOp (fun x y H Q => ∃ n, Classical.choose (ho n) x y H Q) ta tb), fun i => pt_cmpR (fun pins s σ H x y v u Q I rx ry ⟨n, h⟩ => (ho' n).1 i pins s σ H x y v u Q I rx ry h) (a1 i) (b1 i) hm, fun S σ H Q q k' => ?_⟩
  refine a2 S σ H _ q fun x S1 H1 e1 q1 r1 => b2 S1 σ H1 _ q1 fun n y S2 H2 e2 q2 r2 => ⟨n, ?_⟩
  exact (ho' n).2 Γ S2 σ H2 x y _ q2 (s1.mono e2 r1) r2 fun v S3 H3 e3 q3 r3 => ⟨k, r3, k' S3 H3 ((e1.trans e2).trans e3) q3.drop⟩
end
end SL

/-! instances: fields, methods; a list of lists of data as one thing of one's own -/
namespace SL
open PySem PySem.Spec PyProof.Rows L2
/-! ### writing into what has several cells -/
section
variable {K : PySem.W.Frag} {E : Ent} {Γ : List (Option Sl)} {R R' : List Res} {S S' H H' : Hp} {σ : L2.St} {p : Addr} {o' : HO}
theorem SR.putM (q : SR K E Γ R S σ H) (k : Nat) {ρ ρ' : Res} (hk : R[k]? = some ρ) (h1 : ∀ O, ρ.r K S O → Same O H → ∃ O', O p ≠ none ∧ ρ'.r K S O' ∧ Same O' (upd H p o') ∧ ∀ a, O' a ≠ none → O a ≠ none) : SR K E Γ (R.set k ρ') S σ (upd H p o') := by
  obtain ⟨Os, ⟨a1, a2⟩, a3⟩ := q.own
  obtain ⟨O, e1, ⟨g1, g2, g3⟩, g4⟩ := all2_split a1 hk
  obtain ⟨O', n1, n2, n3, n4⟩ := h1 O g1 g2
  have hp : S p = none := g3 p n1
  have own_p : E.A0 p ∨ E.H0 p = none := a3 _ (List.mem_of_getElem? e1) p n1
  have others : ∀ (j : Nat) O2, j ≠ k → Os[j]? = some O2 → ∀ a, O a ≠ none → O2 a = none := fun j O2 hj e => disj_symm (pairwise_get a2 (fun _ _ => disj_symm) hj e e1)
  refine ⟨same_under q.sub hp, q.ext, fun a u e n => ?_, q.new, ⟨Os.set k O', ⟨g4 O' _ ρ' ⟨n2, n3, fun a ha => g3 a (n4 a ha)⟩ fun j x y hj e2 e3 ⟨b1, b2, b3⟩ => ⟨b1, same_under b2 (others j y hj e3 p n1), b3⟩, ?_⟩, fun O2 hO a ha => ?_⟩, q.slots⟩
  · by_cases ha : a = p
    · subst ha
      rcases own_p with z | z
      · exact absurd z n
      · rw [z] at e; cases e
    · rw [upd_ne ha]; exact q.fr a u e n
  · refine pairwise_set (fun _ _ => disj_symm) a2 fun j O2 hj e a ha => ?_
    by_cases z : O' a = none
    · exact z
    · exact absurd (others j O2 hj e a (n4 a z)) ha
  · rcases List.mem_or_eq_of_mem_set hO with z | z
    · exact a3 O2 z a ha
    · subst z
      exact a3 O (List.mem_of_getElem? e1) a (n4 a ha)
/-- the last thing of one's own goes into another one, of which one cell is written -/
theorem SR.merge (q : SR K E Γ (R ++ [ρ2]) S σ H) (k : Nat) {ρ ρ' : Res} (hk : R[k]? = some ρ) (h1 : ∀ O O2, ρ.r K S O → ρ2.r K S O2 → Same O H → Same O2 H → (∀ a, O a ≠ none → O2 a = none) → ∃ O', O p ≠ none ∧ ρ'.r K S O' ∧ Same O' (upd H p o') ∧ ∀ a, O' a ≠ none → O a ≠ none ∨ O2 a ≠ none) : SR K E Γ (R.set k ρ') S σ (upd H p o') := by
  obtain ⟨Os0, ⟨b1, b2⟩, b3⟩ := q.own
  obtain ⟨Os, Ol, rfl, a1, al⟩ := all2_app_l b1
  cases al with
  | cons hl0 tl =>
    cases tl
    rename_i O2
    obtain ⟨l1, l2, l3⟩ := hl0
    obtain ⟨a2, _, ad⟩ := List.pairwise_append.mp b2
    have ad : ∀ O ∈ Os, ∀ a, O a ≠ none → O2 a = none := fun O hO => ad O hO O2 (List.mem_singleton.mpr rfl)
    obtain ⟨O, e1, ⟨g1, g2, g3⟩, g4⟩ := all2_split a1 hk
    have hOm := List.mem_of_getElem? e1
    obtain ⟨O', n1, n2, n3, n4⟩ := h1 O O2 g1 l1 g2 l2 (ad O hOm)
    have hp : S p = none := g3 p n1
    have own_p : E.A0 p ∨ E.H0 p = none := b3 _ (by simp [hOm]) p n1
    have others : ∀ (j : Nat) O3, j ≠ k → Os[j]? = some O3 → ∀ a, O' a ≠ none → O3 a = none := fun j O3 hj e a ha => by
      rcases n4 a ha with z | z
      · exact disj_symm (pairwise_get a2 (fun _ _ => disj_symm) hj e e1) a z
      · exact disj_symm (ad O3 (List.mem_of_getElem? e)) a z
    have othersO : ∀ (j : Nat) O3, j ≠ k → Os[j]? = some O3 → O3 p = none := fun j O3 hj e => disj_symm (pairwise_get a2 (fun _ _ => disj_symm) hj e e1) p n1
    have nS : ∀ a, O' a ≠ none → S a = none := fun a ha => (n4 a ha).elim (g3 a) (l3 a)
    refine ⟨same_under q.sub hp, q.ext, fun a u e n => ?_, q.new, ⟨Os.set k O', ⟨g4 O' _ ρ' ⟨n2, n3, nS⟩ fun j x y hj e2 e3 ⟨c1, c2, c3⟩ => ⟨c1, same_under c2 (othersO j y hj e3), c3⟩, ?_⟩, fun O3 hO a ha => ?_⟩, q.slots⟩
    · by_cases ha : a = p
      · subst ha
        rcases own_p with z | z
        · exact absurd z n
        · rw [z] at e; cases e
      · rw [upd_ne ha]; exact q.fr a u e n
    · refine pairwise_set (fun _ _ => disj_symm) a2 fun j O3 hj e a ha => ?_
      by_cases z : O' a = none
      · exact z
      · exact absurd (others j O3 hj e a z) ha
    · rcases List.mem_or_eq_of_mem_set hO with z | z
      · exact b3 O3 (by simp [z]) a ha
      · subst z
        rcases n4 a ha with y | y
        · exact b3 O (by simp [hOm]) a y
        · exact b3 O2 (by simp) a y
/-- a cell that is nobody's -/
theorem SR.junk {o : HO} (q : SR K E Γ R S σ H) (h : H p = none) : SR K E Γ R S σ (upd H p o) where
  sub := same_under q.sub (q.free h)
  ext := q.ext
  fr := fun a u e n => by
    by_cases ha : a = p
    · subst ha; rw [q.fr a u e n] at h; cases h
    · rw [upd_ne ha]; exact q.fr a u e n
  new := q.new
  own := by
    obtain ⟨Os, ⟨h1, h2⟩, h3⟩ := q.own
    refine ⟨Os, ⟨h1.imp fun ρ O hh => ⟨hh.1, same_under hh.2.1 ?_, hh.2.2⟩, h2⟩, h3⟩
    cases e : O p with
    | none => rfl
    | some u => rw [hh.2.1 p u e] at h; cases h
  slots := q.slots
end
/-! ### fields -/
abbrev FRs (K : PySem.W.Frag) (S : Hp) (fs : List (Str × Sl)) (fvs : List (Str × V)) : Prop := All2 (fun (a : Str × Sl) (b : Str × V) => b.1 = a.1 ∧ a.2.r K S b.2) fs fvs
def rI (p C : Addr) (fs : List (Str × Sl)) : Res := ⟨fun K S O => ∃ dx fvs, O = hOne p (.ins C dx fvs) ∧ FRs K S fs fvs, fun e ⟨dx, fvs, h1, h2⟩ => ⟨dx, fvs, h1, h2.imp fun a b g => ⟨g.1, a.2.mono e g.2⟩⟩⟩
theorem frs_look {K : PySem.W.Frag} {S : Hp} (x : Str) : ∀ {fs : List (Str × Sl)} {fvs : List (Str × V)}, FRs K S fs fvs → (lk fs x = none ∧ fvs.lookup x = none) ∨ ∃ s v, lk fs x = some s ∧ fvs.lookup x = some v ∧ s.r K S v
  | _, _, .nil => .inl ⟨rfl, rfl⟩
  | _, _, .cons (a := a) (b := b) ⟨h1, h2⟩ t => by
    obtain ⟨y, s⟩ := a
    obtain ⟨y', v⟩ := b
    have h1 : y' = y := h1
    subst h1
    by_cases e : y' = x
    · subst e
      exact .inr ⟨s, v, lk_pos rfl, by simp [List.lookup], h2⟩
    · rw [lk_neg e]
      have : (x == y') = false := beq_eq_false_iff_ne.mpr fun z => e z.symm
      simp only [List.lookup, this]
      exact frs_look x t
def ptF (f : Str) (s : Sl) : List (Str × Sl) → List (Str × Sl)
  | [] => [(f, s)]
  | (g, t) :: r => if g = f then (g, s) :: r else (g, t) :: ptF f s r
theorem frs_put {K : PySem.W.Frag} {S : Hp} {f : Str} {s : Sl} {v : V} (h : s.r K S v) : ∀ {fs : List (Str × Sl)} {fvs : List (Str × V)}, FRs K S fs fvs → FRs K S (ptF f s fs) (putF f v fvs)
  | _, _, .nil => .cons ⟨rfl, h⟩ .nil
  | _, _, .cons (a := a) (b := b) ⟨h1, h2⟩ t => by
    obtain ⟨y, s'⟩ := a
    obtain ⟨y', v'⟩ := b
    have h1 : y' = y := h1
    subst h1
    unfold ptF putF
    by_cases e : y' = f
    · rw [if_pos e, if_pos e]; exact .cons ⟨rfl, h⟩ t
    · rw [if_neg e, if_neg e]; exact .cons ⟨rfl, h2⟩ (frs_put h t)
/-! ### a list of lists of data -/
structure RwR (K : PySem.W.Frag) (S O : Hp) (l : Addr) (qr : List (Addr × List PyData)) : Prop where
  nd : (qr.map Prod.fst).Nodup
  nl : l ∉ qr.map Prod.fst
  main : O l = some (.lst (qr.map fun x => V.ref x.1))
  rows : ∀ x ∈ qr, ∃ vs, O x.1 = some (.lst vs) ∧ DaAll K S vs x.2
  all : ∀ a, O a ≠ none → a = l ∨ a ∈ qr.map Prod.fst
def rRw (l : Addr) (qr : List (Addr × List PyData)) : Res := ⟨fun K S O => RwR K S O l qr, fun e h => ⟨h.nd, h.nl, h.main, fun x hx => let ⟨vs, a, b⟩ := h.rows x hx; ⟨vs, a, daAll_same e b⟩, h.all⟩⟩
/-- a method -/
structure Mth (P : Program) (w : World) (K : PySem.W.Frag) (mg : Str → Option Value) (base : Heap) (C : Addr) (m : Str) (ps : List Str) (k : Nat) (sp : Sp) : Prop where
  ex : ∃ (fa : Addr) (fd : FuncData), FnOk P w K mg base CX0 k fa fd ps sp ∧ Meth K C m fa ∧ Binds K fd ps []
structure MthR (P : Program) (w : World) (K : PySem.W.Frag) (mg : Str → Option Value) (base : Heap) (C : Addr) (m : Str) (ps : List Str) (k : Nat) (sp : Sp) : Prop where
  ex : ∃ (fa : Addr) (fd : FuncData), FnOk P w K mg base (L2N.CX P w) k fa fd ps sp ∧ Meth K C m fa ∧ Binds K fd ps []
structure MCal (P : Program) (w : World) (K : PySem.W.Frag) (mg : Str → Option Value) (base : Heap) (A : Around) (C : Addr) (m : Str) (ps : List Str) (sp : Sp) : Prop where
  ex : ∃ (k : Nat) (fa : Addr) (fd : FuncData), FnOk P w K mg base CX0 k fa fd ps sp ∧ Room k A ∧ Meth K C m fa ∧ Binds K fd ps []
structure MCalR (P : Program) (w : World) (K : PySem.W.Frag) (mg : Str → Option Value) (base : Heap) (A : Around) (C : Addr) (m : Str) (ps : List Str) (sp : Sp) : Prop where
  ex : ∃ (k : Nat) (fa : Addr) (fd : FuncData), FnOk P w K mg base (L2N.CX P w) k fa fd ps sp ∧ Room k A ∧ Meth K C m fa ∧ Binds K fd ps []
section
variable {P : Program} {w : World} {K : PySem.W.Frag} {mg : Str → Option Value} {base : Heap} {A : Around} {C : Addr} {m : Str} {ps : List Str}
theorem Mth.cal {k n : Nat} {sp : Sp} (d : Mth P w K mg base C m ps k sp) (hr : Room n A) (hk : k ≤ n := by decide) : MCal P w K mg base A C m ps sp := let ⟨fa, fd, h1, h2, h3⟩ := d.ex; ⟨k, fa, fd, h1, hr.mono hk, h2, h3⟩
theorem MthR.cal {k n : Nat} {sp : Sp} (d : MthR P w K mg base C m ps k sp) (hr : Room n A) (hk : k ≤ n := by decide) : MCalR P w K mg base A C m ps sp := let ⟨fa, fd, h1, h2, h3⟩ := d.ex; ⟨k, fa, fd, h1, hr.mono hk, h2, h3⟩
end
/-- a promise to raise, the class by what is handed -/
def spRc (K : PySem.W.Frag) {θ : Type} (pre : θ → Prop) (as : θ → List Sl) (Rs : θ → List Res) (C : θ → Addr) (Rn : θ → List Res) : Sp := fun vs H _ EE =>
  ∃ (i : θ) (S0 : Hp) (Os : List Hp), pre i ∧ Same S0 H ∧ All2 (fun (s : Sl) v => s.r K S0 v) (as i) vs ∧ Own K S0 H (Rs i) Os ∧
    ∀ S' H' Os', (∀ a o, H a = some o → ¬ InOs Os a → H' a = some o) → Same S' H' → Same S0 S' → (∀ a, S' a ≠ none → S0 a ≠ none ∨ H a = none ∨ InOs Os a) →
      Own K S' H' (Rn i) Os' → (∀ O ∈ Os', ∀ a, O a ≠ none → InOs Os a ∨ H a = none) → EE (.ref (C i)) none H'
section
variable {ι : Type} {X : ι → Cx} {K : PySem.W.Frag} {E : Ent} {B : Hp} {Γ Γ' : Slots} {R R' R1 R2' R3 Ra Rb Rs : List Res} {a b c e o : Expr} {es : List Expr} {pos p' apos : Pos} {s s1 s2 s3 : Sl} {ss : List Sl}
  {P : Program} {w : World} {mg : Str → Option Value} {base : Heap} {A : Around} {N ps : List Str} {rest sts bd : List Stmt} {D : Ends} {S S' H H' : Hp} {σ σ' : L2.St} {f m : Str} {C : Addr} {i j : Int} {x : Str}
theorem ev_fld (F : Fam X P w K mg base A N) (k : Nat) {p : Addr} {fs : List (Str × Sl)} (ho : EvJ X K E Γ R o R1 (sv (.ref p))) (hk : R1[k]? = some (rI p C fs)) (c : Cls K C) (n : NoAttr K C f) (hf : lk fs f = some s)
    (hb : ∀ i, attributeBase o f (X i).env (eval o (X i).env) = eval o (X i).env := by exact fun _ => rfl) : EvJ X K E Γ R (.Attribute o f pos) R1 s := by
  obtain ⟨t, h1, h2⟩ := ho
  refine ⟨tFld K t f, fun i => by rw [← F.fK i]; exact pe_fld (h1 i) (hb i), fun S σ H Q q kk => h2 S σ H _ q fun v S1 H1 e1 q1 r1 => ?_⟩
  cases (show v = .ref p from r1)
  obtain ⟨O, ⟨dx, fvs, e, g⟩, g2⟩ := q1.res k hk
  subst e
  rcases frs_look f g with ⟨z, _⟩ | ⟨s', v, z1, z2, z3⟩
  · rw [hf] at z; cases z
  · rw [hf] at z1
    cases z1
    exact ⟨p, C, dx, fvs, v, rfl, g2 p _ hOne_same, c, n, z2, kk v S1 H1 e1 q1 z3⟩
theorem blk_fldPut (F : Fam X P w K mg base A N) (k : Nat) {p : Addr} {fs : List (Str × Sl)} {p2 : Pos} {value : Expr} (hv : EvJ X K E Γ R value R1 s) (ho : EvJ X K E Γ R1 o R1 (sv (.ref p))) (hk : R1[k]? = some (rI p C fs)) (c : Cls K C) (n : NoAttr K C f) (hl : fs.length < 1000)
    (hr : Blk X K E B Γ (R1.set k (rI p C (ptF f s fs))) rest D) (hs : ∀ i, swapsWith value (some (.Attribute o f p2)) pos.line (X i).env = pure false := by exact fun _ => rfl) : Blk X K E B Γ R (.Assign [.Attribute o f p2] value pos :: rest) D := by
  obtain ⟨tv, v1, v2⟩ := hv
  obtain ⟨to, o1, o2⟩ := ho
  obtain ⟨u, g1, g2⟩ := hr
  refine ⟨tSeq (sFld K to tv f) u, fun i => pss_cons (by rw [← F.fK i]; exact ps_fld (o1 i) (v1 i) (hs i)) (g1 i), fun S σ H b q => ?_⟩
  refine v2 S σ H _ q fun v S1 H1 e1 q1 r1 => o2 S1 σ H1 _ q1 fun vo S2 H2 e2 q2 r2 => ?_
  cases (show vo = .ref p from r2)
  obtain ⟨O, ⟨dx, fvs, e, g⟩, h2⟩ := q2.res k hk
  subst e
  refine ⟨p, C, dx, fvs, rfl, h2 p _ hOne_same, c, n, by rw [← All2.len g]; exact hl, g2 S2 σ _ (b.trans (e1.trans e2)) (q2.put k hk (fun O ⟨_, _, e, _⟩ => ⟨_, e⟩) ⟨dx, _, rfl, frs_put (s.mono e2 r1) g⟩)⟩
/-- o.m(e, ..), cells handed -/
theorem ev_methG {θ : Type} {ν : θ → Type} {pre : θ → Prop} {as : θ → List Sl} {Rs : θ → List Res} {Rn : ∀ i, ν i → List Res} {res : ∀ i, ν i → Sl} (F : Fam X P w K mg base A N) (Cl : MCal P w K mg base A C m ps (spJ K pre as Rs Rn res)) (c : Cls K C) (i : θ) (Ra Rb : List Res) (k : Nat) {p : Addr} {fs : List (Str × Sl)} (ho : EvJ X K E Γ R o R (sv (.ref p))) (ha : ArJ X K E Γ R (e :: es) R1 ss) (has : as i = sv (.ref p) :: ss) (hR : R1 = Ra ++ Rs i ++ Rb) (hpre : pre i) (hk : R[k]? = some (rI p C fs)) (hm : lk fs m = none)
    {pl : ι → Sem Bool} (hst : ∀ i, starEach (e :: es) (X i).env = (false, eval e (X i).env) :: starEach es (X i).env := by exact fun _ => rfl) (hpl : ∀ i, (backTo pos (starEach es (X i).env)).any Prod.fst = false := by exact fun _ => rfl)
    (ht : ∀ i, eval (.Call (.Attribute o m apos) (e :: es) [] pos) (X i).env = (do
      let ov ← eval o (X i).env
      standAt apos.atName
      let (f, first) ← holding [ov] (getMethod ov m (pl i))
      callWith pos f first (backTo pos (starEach (e :: es) (X i).env)) (backToKw pos (keywordEach [] (X i).env))) := by exact fun _ => rfl) :
    EvN X K E Γ R (.Call (.Attribute o m apos) (e :: es) [] pos) (fun n => Ra ++ Rn i n ++ Rb) (res i) := by
  obtain ⟨kk0, fa, fd, hF, hr, hme, hb⟩ := Cl.ex
  obtain ⟨t, a1, a2⟩ := ha
  obtain ⟨to, o1, o2⟩ := ho
  subst hR
  refine ⟨tMeth C m (spJ K pre as Rs Rn res) [] E0 to t, fun j => ?_, fun S σ H Q q kk => o2 S σ H _ q fun vo S1 H1 e1 q1 r1 => ?_⟩
  · refine pe_meth (CX := CX0) (k := kk0) (f := fa) (fd := fd) (ps := ps) (ds := []) (o1 j) (by rw [F.fK j]; exact c) (by rw [F.fK j]; exact hme) ?_ (by rw [F.fA j]; exact hr) (by rw [F.fK j]; exact hb) .nil pass0 (a1 j) (hst j) (hpl j) (ht j)
    rw [F.fP j, F.fw j, F.fK j, F.fmg j, F.fbase j]
    exact hF
  · cases (show vo = .ref p from r1)
    obtain ⟨O, ⟨dx, fvs, e, g⟩, g2⟩ := q1.res k hk
    subst e
    have hlk : fvs.lookup m = none := by
      rcases frs_look m g with ⟨_, z⟩ | ⟨s', v, z1, _⟩
      · exact z
      · rw [hm] at z1; cases z1
    refine ⟨p, dx, fvs, rfl, g2 p _ hOne_same, hlk, a2 S1 σ H1 _ q1 fun vs S2 H2 e2 q2 r2 => ?_⟩
    rw [List.append_nil]
    obtain ⟨Os, hOs, hgive⟩ := q2.give
    exact ⟨i, S2, Os, hpre, q2.sub, by rw [has]; exact .cons rfl r2, hOs, fun n v S' H' Os' hfr hsub hext hnew hown hO hres => kk n v S' H' ((e1.trans e2).trans hext) (hgive _ S' H' Os' hfr hsub hext hnew hown hO) hres⟩
theorem ev_methG0 {θ : Type} {ν : θ → Type} {pre : θ → Prop} {as : θ → List Sl} {Rs : θ → List Res} {Rn : ∀ i, ν i → List Res} {res : ∀ i, ν i → Sl} (F : Fam X P w K mg base A N) (Cl : MCal P w K mg base A C m ps (spJ K pre as Rs Rn res)) (c : Cls K C) (i : θ) (Ra Rb : List Res) (k : Nat) {p : Addr} {fs : List (Str × Sl)} (ho : EvJ X K E Γ R o R (sv (.ref p))) (has : as i = [sv (.ref p)]) (hR : R = Ra ++ Rs i ++ Rb) (hpre : pre i) (hk : R[k]? = some (rI p C fs)) (hm : lk fs m = none)
    {pl : ι → Sem Bool} (ht : ∀ i, eval (.Call (.Attribute o m apos) [] [] pos) (X i).env = (do
      let ov ← eval o (X i).env
      standAt apos.atName
      let (f, first) ← holding [ov] (getMethod ov m (pl i))
      callWith pos f first (backTo pos (starEach [] (X i).env)) (backToKw pos (keywordEach [] (X i).env))) := by exact fun _ => rfl) :
    EvN X K E Γ R (.Call (.Attribute o m apos) [] [] pos) (fun n => Ra ++ Rn i n ++ Rb) (res i) := by
  obtain ⟨kk0, fa, fd, hF, hr, hme, hb⟩ := Cl.ex
  obtain ⟨to, o1, o2⟩ := ho
  subst hR
  refine ⟨tMeth C m (spJ K pre as Rs Rn res) [] E0 to tNil, fun j => ?_, fun S σ H Q q kk => o2 S σ H _ q fun vo S1 H1 e1 q1 r1 => ?_⟩
  · refine pe_meth0 (CX := CX0) (k := kk0) (f := fa) (fd := fd) (ps := ps) (ds := []) (o1 j) (by rw [F.fK j]; exact c) (by rw [F.fK j]; exact hme) ?_ (by rw [F.fA j]; exact hr) (by rw [F.fK j]; exact hb) .nil pass0 (ht j)
    rw [F.fP j, F.fw j, F.fK j, F.fmg j, F.fbase j]
    exact hF
  · cases (show vo = .ref p from r1)
    obtain ⟨O, ⟨dx, fvs, e, g⟩, g2⟩ := q1.res k hk
    subst e
    have hlk : fvs.lookup m = none := by
      rcases frs_look m g with ⟨_, z⟩ | ⟨s', v, z1, _⟩
      · exact z
      · rw [hm] at z1; cases z1
    obtain ⟨Os, hOs, hgive⟩ := q1.give
    exact ⟨p, dx, fvs, rfl, g2 p _ hOne_same, hlk, i, S1, Os, hpre, q1.sub, by rw [has]; exact .cons rfl .nil, hOs, fun n v S' H' Os' hfr hsub hext hnew hown hO hres => kk n v S' H' (e1.trans hext) (hgive _ S' H' Os' hfr hsub hext hnew hown hO) hres⟩
/-! rows -/
theorem rw_row {q : SR K E Γ R S σ H} (k : Nat) {l : Addr} {qr : List (Addr × List PyData)} (hk : R[k]? = some (rRw l qr)) {n : Nat} {r : Addr} {ds : List PyData} (hn : qr[n]? = some (r, ds)) : ∃ vs, H r = some (.lst vs) ∧ DaAll K S vs ds := by
  obtain ⟨O, ⟨_, _, _, h4, _⟩, g⟩ := q.res k hk
  obtain ⟨vs, h5, h6⟩ := h4 (r, ds) (List.mem_of_getElem? hn)
  exact ⟨vs, g _ _ h5, h6⟩
theorem lv_row (k : Nat) {l : Addr} {qr : List (Addr × List PyData)} (hk : R[k]? = some (rRw l qr)) {n : Nat} {r : Addr} {ds : List PyData} (hn : qr[n]? = some (r, ds)) : LV K R (sv (.ref r)) ds := fun E Γ S σ H v q h => by
  cases (show v = .ref r from h)
  obtain ⟨vs, h1, h2⟩ := rw_row (q := q) k hk hn
  exact ⟨r, vs, rfl, h1, h2⟩
/-- the rows, one by one -/
theorem it_rows (F : Fam X P w K mg base A N) {tg : Expr} {l : Addr} {qr : List (Addr × List PyData)} (h : EvJ X K E Γ R e R1 (sv (.ref l))) (k : Nat) (hk : ∃ qr', R1[k]? = some (rRw l qr') ∧ qr'.map Prod.fst = qr.map Prod.fst) : ItJ X K E Γ R tg e R1 (qr.map fun x => sv (.ref x.1)) (fun R' => ∃ qr', R'[k]? = some (rRw l qr') ∧ qr'.map Prod.fst = qr.map Prod.fst) := by
  obtain ⟨t, a1, a2⟩ := h
  have cell : ∀ {E : Ent} {Γ : Slots} {R : List Res} {S : Hp} {σ : L2.St} {H : Hp}, SR K E Γ R S σ H → (∃ qr', R[k]? = some (rRw l qr') ∧ qr'.map Prod.fst = qr.map Prod.fst) → H l = some (.lst (qr.map fun x => V.ref x.1)) := fun q ⟨qr', hq, he⟩ => by
    obtain ⟨O, ⟨_, _, h3, _, _⟩, g⟩ := q.res k hq
    rw [g _ _ h3]
    have e2 : qr'.map (fun x => V.ref x.1) = (qr'.map Prod.fst).map V.ref := by rw [List.map_map]; rfl
    have e3 : qr.map (fun x => V.ref x.1) = (qr.map Prod.fst).map V.ref := by rw [List.map_map]; rfl
    rw [e2, e3, he]
  refine ⟨iList K t, fun i => by rw [← F.fK i]; exact pi_list (a1 i), fun S σ H Rk q kk => a2 S σ H _ q fun v S1 H1 e1 q1 r1 => ?_⟩
  cases (show v = .ref l from r1)
  refine ⟨l, rfl, ⟨_, SqL.of (cell q1 hk)⟩, kk _ S1 H1 e1 q1 fun n Γ' R' S' σ' H' e' q' hC => ?_⟩
  have hc := cell q' hC
  refine ⟨fun s hs => ?_, fun hn => ⟨_, SqL.of hc, by rw [List.length_map] at hn ⊢; exact hn⟩⟩
  rw [List.getElem?_map] at hs
  cases e2 : qr[n]? with
  | none => rw [e2] at hs; cases hs
  | some d =>
    rw [e2] at hs
    cases hs
    refine ⟨⟨_, .ref d.1, SqL.of hc, by rw [List.getElem?_map, e2]; rfl⟩, fun y H'' ⟨z1, z2⟩ => ?_⟩
    subst z1
    cases sqL_same (xs := qr.map fun x => V.ref x.1) (x := y) z2 (SqL.of hc) (y := .ref d.1) (by rw [List.getElem?_map, e2]; rfl)
    exact ⟨S', Same.refl _, q', rfl⟩
theorem rw_set {K : PySem.W.Frag} {S H O : Hp} {l : Addr} {qr : List (Addr × List PyData)} {n : Nat} {r : Addr} {ds ds' : List PyData} {vs' : List V} (hn : qr[n]? = some (r, ds)) (h : (rRw l qr).r K S O) (hs : Same O H) (hd : DaAll K S vs' ds') :
    ∃ O', O r ≠ none ∧ (rRw l (qr.set n (r, ds'))).r K S O' ∧ Same O' (upd H r (.lst vs')) ∧ ∀ a, O' a ≠ none → O a ≠ none := by
  obtain ⟨h1, h2, h3, h4, h5⟩ := h
  have hmem := List.mem_of_getElem? hn
  have hmr : r ∈ qr.map Prod.fst := List.mem_map.mpr ⟨_, hmem, rfl⟩
  have hlr : l ≠ r := fun z => h2 (z ▸ hmr)
  obtain ⟨vs, g1, g2⟩ := h4 _ hmem
  have hfst : (qr.set n (r, ds')).map Prod.fst = qr.map Prod.fst := by
    rw [List.map_set]
    apply List.ext_getElem?
    intro j
    by_cases e : n = j
    · subst e
      have hl := (List.getElem?_eq_some_iff.mp hn).1
      rw [List.getElem?_set_self (by rw [List.length_map]; exact hl), List.getElem?_map, hn]
      rfl
    · rw [List.getElem?_set_ne e]
  refine ⟨upd O r (.lst vs'), by rw [g1]; simp, ⟨by rw [hfst]; exact h1, by rw [hfst]; exact h2, ?_, fun x hx => ?_, fun a ha => ?_⟩, fun a u e => ?_, fun a ha => ?_⟩
  · rw [upd_ne hlr, h3]
    have e2 : (qr.set n (r, ds')).map (fun x => V.ref x.1) = ((qr.set n (r, ds')).map Prod.fst).map V.ref := by rw [List.map_map]; rfl
    rw [e2, hfst, List.map_map]
    rfl
  · obtain ⟨j, hj⟩ := List.getElem?_of_mem hx
    by_cases e : n = j
    · subst e
      have hl := (List.getElem?_eq_some_iff.mp hn).1
      rw [List.getElem?_set_self hl] at hj
      cases hj
      exact ⟨vs', upd_same, hd⟩
    · rw [List.getElem?_set_ne e] at hj
      have hxr : x.1 ≠ r := fun z => by
        have i1 : (qr.map Prod.fst)[j]? = some r := by rw [List.getElem?_map, hj, ← z]; rfl
        have i2 : (qr.map Prod.fst)[n]? = some r := by rw [List.getElem?_map, hn]; rfl
        have hjl := (List.getElem?_eq_some_iff.mp i1)
        have hnl := (List.getElem?_eq_some_iff.mp i2)
        obtain ⟨a1, a2⟩ := hjl
        obtain ⟨b1, b2⟩ := hnl
        rcases Nat.lt_or_gt_of_ne e with z2 | z2
        · exact (List.pairwise_iff_getElem.mp h1) n j b1 a1 z2 (by rw [a2, b2])
        · exact (List.pairwise_iff_getElem.mp h1) j n a1 b1 z2 (by rw [a2, b2])
      obtain ⟨us, u1, u2⟩ := h4 x (List.mem_of_getElem? hj)
      exact ⟨us, by rw [upd_ne hxr]; exact u1, u2⟩
  · rw [hfst]
    by_cases e : a = r
    · subst e; exact .inr hmr
    · rw [upd_ne e] at ha; exact h5 a ha
  · by_cases e2 : a = r
    · subst e2; rw [upd_same] at e ⊢; exact e
    · rw [upd_ne e2] at e ⊢; exact hs a u e
  · by_cases e : a = r
    · subst e; rw [g1]; simp
    · rw [upd_ne e] at ha; exact ha
theorem blk_setRow (F : Fam X P w K mg base A N) (k : Nat) {l : Addr} {qr : List (Addr × List PyData)} {n : Nat} {r : Addr} {ds : List PyData} {d : PyData} {p2 : Pos} {value i : Expr} (hv : EvJ X K E Γ R value R1 s) (ho : EvJ X K E Γ R1 o R1 (sv (.ref r))) (hi : EvJ X K E Γ R1 i R1 (dI j)) (hd : ∀ K S v, s.r K S v → Da K S v d) (hk : R1[k]? = some (rRw l qr)) (hn : qr[n]? = some (r, ds)) (h0 : 0 ≤ j) (h1 : j < ds.length)
    (hr' : Blk X K E B Γ (R1.set k (rRw l (qr.set n (r, ds.set j.toNat d)))) rest D) (hs : ∀ m, swapsWithSole [.Subscript o i p2] value pos.line (X m).env = pure false := by exact fun _ => rfl) (hw : ∀ m, swappedStores [.Subscript o i p2] value (X m).env = pure none := by exact fun _ => rfl)
    (hh : ∀ m, (assignEach [.Subscript o i p2] (X m).env).map (·.2) = [assign (.Subscript o i p2) (X m).env] := by exact fun _ => rfl)
    (ha : ∀ m v, assign (.Subscript o i p2) (X m).env v = (do
      let ov ← holding [v] (eval o (X m).env)
      let iv ← holding [v, ov] (eval i (X m).env)
      standAt p2
      holding [v, ov, iv] (setItem ov iv v)
      release [v, ov, iv] []) := by exact fun _ _ => rfl) :
    Blk X K E B Γ R (.Assign [.Subscript o i p2] value pos :: rest) D := by
  obtain ⟨tv, v1, v2⟩ := hv
  obtain ⟨to, o1, o2⟩ := ho
  obtain ⟨ti, i1, i2⟩ := hi
  obtain ⟨u, g1, g2⟩ := hr'
  refine ⟨tSeq (tAsg tv (gSub to ti rSetL)) u, fun m => pss_cons (ps_asg (v1 m) (pg_sub (o1 m) (i1 m) set_list (ha m)) (hs m) (hw m) (hh m)) (g1 m), fun S σ H b q => ?_⟩
  refine v2 S σ H _ q fun v S1 H1 e1 q1 r1 => o2 S1 σ H1 _ q1 fun vo S2 H2 e2 q2 r2 => i2 S2 σ H2 _ q2 fun vi S3 H3 e3 q3 r3 => ?_
  cases (show vo = .ref r from r2)
  cases (show vi = .int j from r3)
  obtain ⟨vs, c1, c2⟩ := rw_row (q := q3) k hk hn
  have hl := daAll_len c2
  refine ⟨r, vs, j, j.toNat, rfl, rfl, c1, ixN_in h0 (by omega), g2 S3 σ _ (b.trans ((e1.trans e2).trans e3)) (q3.putM k hk fun O hO hsm => rw_set hn hO hsm (daAll_set (hd K S3 v (s.mono (e2.trans e3) r1)) _ c2))⟩
end
end SL

/-! rows put in and taken out, methods that raise -/
namespace L2
open PySem PySem.Spec PyProof.Rows
/-- l.remove(r), l a list of lists of plain data: the first that equals r -/
def rRemR (K : PySem.W.Frag) : V → List V → Hp → VK → Prop := fun x xs H Q => ∃ (l r : Addr) (as : List Addr) (D : Addr → PyData) (j : Nat), x = .ref l ∧ xs = [.ref r] ∧ H l = some (.lst (as.map V.ref)) ∧ (∀ a ∈ as, Dp K H (.ref a) (D a) ∧ (D a).plain = true ∧ (D a).depth ≤ 32) ∧ as[j]? = some r ∧ (∀ m : Nat, m < j → ∀ a, as[m]? = some a → PyData.eqv (D a) (D r) = false) ∧ Q .non (upd H l (.lst ((as.eraseIdx j).map V.ref)))
theorem vals_refs : ∀ {as : List Addr} {us : List Value}, Vals (as.map V.ref) us → us = as.map Value.ref
  | [], _, .nil => rfl
  | a :: as, u :: us, h => by
    cases h with
    | cons h t =>
      have h1 : u = Value.ref a := h
      rw [h1, vals_refs t]
      rfl
theorem erase_map' {α β : Type} (f : α → β) : ∀ (l : List α) (j : Nat), (l.map f).eraseIdx j = (l.eraseIdx j).map f
  | [], _ => rfl
  | _ :: _, 0 => rfl
  | n :: r, j + 1 => by
    show f n :: (r.map f).eraseIdx j = f n :: (r.eraseIdx j).map f
    rw [erase_map' f r j]
theorem mt_remR {X : Cx} (hu : X.A.units + 64 < cLine) : MtM X "list.remove" (rRemR X.K) := by
  intro pins s σ H x xs v us Q I rx rxs h
  obtain ⟨l, r, as, D, j, rfl, rfl, hH, hD, hj, hno, q⟩ := h
  cases rx
  obtain ⟨u, rfl, ru⟩ := rxs.one
  cases ru
  obtain ⟨z, its, n, rr, hl, e⟩ := I.lstM hH
  have hits := vals_refs rr
  have hjn : j < as.length := (List.getElem?_eq_some_iff.mp hj).1
  rw [List.length_map] at hl z
  have hrm : r ∈ as := List.mem_of_getElem? hj
  let ee : Value → Bool := fun y => match y with
    | .ref a => PyData.eqv (D a) (D r)
    | _ => false
  have hsz : its.toArray.size = as.length := by rw [List.size_toArray, hits, List.length_map]
  have hget : ∀ (m : Nat) (hm : m < its.toArray.size) (a : Addr), as[m]? = some a → its.toArray[m] = Value.ref a := fun m hm a ha => by
    have : its[m]? = some (Value.ref a) := by rw [hits, List.getElem?_map, ha]; rfl
    obtain ⟨_, h2⟩ := List.getElem?_eq_some_iff.mp this
    simpa using h2
  refine call_meets PySem.F.slot_list_remove ⟨_, e, rfl⟩ PySem.F.entry_list_remove (PySem.F.args_list_remove_2 _ _)
    (SeqAt.list_removeAt l its.toArray n none #[] (.ref r) ee j (by omega) ?_ ?_ (by rw [hsz]; exact z)) ⟨e, ?_, ?_⟩
  · rw [hget j (by omega) r hj]
    show PyData.eqv (D r) (D r) = true
    exact SL.eqv_plain _ (hD r hrm).2.1
  · intro m hm hmj
    rw [hget m hm _ (List.getElem?_eq_getElem (by omega))]
    exact hno m hmj _ (List.getElem?_eq_getElem (by omega))
  · intro y hy
    obtain ⟨a, ha, rfl⟩ : ∃ a ∈ as, Value.ref a = y := by
      have : y ∈ its := by simpa using hy
      rw [hits] at this
      exact List.mem_map.mp this
    obtain ⟨d1, d2, d3⟩ := hD a ha
    obtain ⟨f1, f2, f3⟩ := hD r hrm
    obtain ⟨bs, r1⟩ := Dp.reads I (D a) _ _ d1 rfl
    obtain ⟨cs, r2⟩ := Dp.reads I (D r) _ _ f1 rfl
    exact SeqAt.eqAt_plain _ _ _ _ _ _ _ _ r1 r2 d2 f2 (by rw [Around.in1_units]; omega)
  · have rr2 := rr.eraseIdx j
    have e5 : (as.map V.ref).eraseIdx j = (as.eraseIdx j).map V.ref := erase_map' _ _ _
    rw [e5] at rr2
    refine ⟨.non, _, I.lset (its' := its.eraseIdx j) (t' := s.toks) hH e ?_ rr2 ?_, rfl, q⟩
    · show its.toArray.eraseIdxIfInBounds j = (its.eraseIdx j).toArray
      rw [List.eraseIdxIfInBounds_toArray]
    · have z2 := List.length_eraseIdx_le as j
      rw [List.length_map]
      omega
end L2

namespace SL
open PySem PySem.Spec PyProof.Rows L2
section
variable {ι : Type} {X : ι → Cx} {K : PySem.W.Frag} {E : Ent} {B : Hp} {Γ Γ' : Slots} {R R' R1 R2' R3 Ra Rb Rs : List Res} {a b c e o : Expr} {es : List Expr} {pos p' apos : Pos} {s s1 s2 s3 : Sl} {ss : List Sl}
  {P : Program} {w : World} {mg : Str → Option Value} {base : Heap} {A : Around} {N ps : List Str} {rest sts bd : List Stmt} {D : Ends} {S S' H H' : Hp} {σ σ' : L2.St} {f m : Str} {C : Addr} {i j : Int} {x : Str} {W : WX}
/-! ### rows in and out -/
theorem rw_app {K : PySem.W.Frag} {S H O O2 : Hp} {l r : Addr} {qr : List (Addr × List PyData)} {ds : List PyData} (h : RwR K S O l qr) (h2 : (rL r ds).r K S O2) (hs : Same O H) (hs2 : Same O2 H) (hd : ∀ a, O a ≠ none → O2 a = none) :
    ∃ O', O l ≠ none ∧ (rRw l (qr ++ [(r, ds)])).r K S O' ∧ Same O' (upd H l (.lst (qr.map (fun x => V.ref x.1) ++ [V.ref r]))) ∧ ∀ a, O' a ≠ none → O a ≠ none ∨ O2 a ≠ none := by
  obtain ⟨vs, e2, g2⟩ := h2
  subst e2
  have hOl : O l ≠ none := by rw [h.main]; simp
  have hrO : O r = none := by
    cases e : O r with
    | none => rfl
    | some u => have := hd r (by rw [e]; simp); rw [hOne_same] at this; cases this
  have hlr : l ≠ r := fun z => by rw [z] at hOl; exact hOl hrO
  have hnr : r ∉ qr.map Prod.fst := fun z => by
    obtain ⟨y, hy, e⟩ := List.mem_map.mp z
    obtain ⟨us, u1, _⟩ := h.rows y hy
    rw [e, hrO] at u1
    cases u1
  refine ⟨fun a => if a = l then some (.lst (qr.map (fun x => V.ref x.1) ++ [V.ref r])) else if a = r then some (.lst vs) else O a, hOl, ⟨?_, ?_, ?_, fun y hy => ?_, fun a ha => ?_⟩, fun a u e => ?_, fun a ha => ?_⟩
  · rw [List.map_append]
    refine List.nodup_append.mpr ⟨h.nd, by simp, fun a ha b hb => ?_⟩
    have : b = r := by simpa using hb
    rw [this]
    exact fun z => hnr (z ▸ ha)
  · rw [List.map_append]
    intro z
    rcases List.mem_append.mp z with z | z
    · exact h.nl z
    · exact hlr (by simpa using z)
  · simp
  · rcases List.mem_append.mp hy with z | z
    · obtain ⟨us, u1, u2⟩ := h.rows y z
      have n1 : y.1 ≠ l := fun k => h.nl (k ▸ List.mem_map.mpr ⟨y, z, rfl⟩)
      have n2 : y.1 ≠ r := fun k => hnr (k ▸ List.mem_map.mpr ⟨y, z, rfl⟩)
      exact ⟨us, by rw [if_neg n1, if_neg n2]; exact u1, u2⟩
    · have : y = (r, ds) := by simpa using z
      subst this
      exact ⟨vs, by rw [if_neg (fun k => hlr k.symm), if_pos rfl], g2⟩
  · by_cases e1 : a = l
    · exact .inl e1
    · rw [if_neg e1] at ha
      rw [List.map_append]
      by_cases e2 : a = r
      · exact .inr (List.mem_append.mpr (.inr (by simp [e2])))
      · rw [if_neg e2] at ha
        rcases h.all a ha with z | z
        · exact .inl z
        · exact .inr (List.mem_append.mpr (.inl z))
  · dsimp only at e
    by_cases e1 : a = l
    · subst e1
      rw [if_pos rfl] at e
      rw [upd_same]
      exact e
    · rw [if_neg e1] at e
      rw [upd_ne e1]
      by_cases e2 : a = r
      · subst e2
        rw [if_pos rfl] at e
        exact hs2 a u (by rw [hOne_same]; exact e)
      · rw [if_neg e2] at e
        exact hs a u e
  · dsimp only at ha
    by_cases e1 : a = l
    · subst e1; exact .inl hOl
    · rw [if_neg e1] at ha
      by_cases e2 : a = r
      · subst e2; exact .inr (by rw [hOne_same]; simp)
      · rw [if_neg e2] at ha; exact .inl ha
theorem rw_del {K : PySem.W.Frag} {S H O : Hp} {l r : Addr} {qr : List (Addr × List PyData)} {ds : List PyData} {n : Nat} (hn : qr[n]? = some (r, ds)) (h : RwR K S O l qr) (hs : Same O H) :
    ∃ O', O l ≠ none ∧ (rRw l (qr.eraseIdx n)).r K S O' ∧ Same O' (upd H l (.lst (((qr.map Prod.fst).eraseIdx n).map V.ref))) ∧ ∀ a, O' a ≠ none → O a ≠ none := by
  have hmem := List.mem_of_getElem? hn
  have hOl : O l ≠ none := by rw [h.main]; simp
  have hlr : l ≠ r := fun z => h.nl (z ▸ List.mem_map.mpr ⟨_, hmem, rfl⟩)
  have em : (qr.eraseIdx n).map Prod.fst = (qr.map Prod.fst).eraseIdx n := (erase_map' _ _ _).symm
  have hsub : ∀ y, y ∈ (qr.map Prod.fst).eraseIdx n → y ∈ qr.map Prod.fst := fun y hy => List.mem_of_mem_eraseIdx hy
  have hnr : r ∉ (qr.map Prod.fst).eraseIdx n := fun z => by
    obtain ⟨i, hne, hi⟩ := List.mem_eraseIdx_iff_getElem?.mp z
    have h1 : (qr.map Prod.fst)[n]? = some r := by rw [List.getElem?_map, hn]; rfl
    obtain ⟨a1, a2⟩ := List.getElem?_eq_some_iff.mp h1
    obtain ⟨b1, b2⟩ := List.getElem?_eq_some_iff.mp hi
    rcases Nat.lt_or_gt_of_ne hne with z2 | z2
    · exact (List.pairwise_iff_getElem.mp h.nd) _ _ b1 a1 z2 (by rw [a2, b2])
    · exact (List.pairwise_iff_getElem.mp h.nd) _ _ a1 b1 z2 (by rw [a2, b2])
  refine ⟨fun a => if a = l then some (.lst (((qr.map Prod.fst).eraseIdx n).map V.ref)) else if a = r then none else O a, hOl, ⟨?_, ?_, ?_, fun y hy => ?_, fun a ha => ?_⟩, fun a u e => ?_, fun a ha => ?_⟩
  · rw [em]; exact h.nd.sublist (List.eraseIdx_sublist ..)
  · rw [em]; exact fun z => h.nl (hsub _ z)
  · rw [if_pos rfl, ← em, List.map_map]
    rfl
  · have hy2 : y ∈ qr := List.mem_of_mem_eraseIdx hy
    have hy3 : y.1 ∈ (qr.map Prod.fst).eraseIdx n := by rw [← em]; exact List.mem_map.mpr ⟨y, hy, rfl⟩
    obtain ⟨us, u1, u2⟩ := h.rows y hy2
    have n1 : y.1 ≠ l := fun k => h.nl (k ▸ List.mem_map.mpr ⟨y, hy2, rfl⟩)
    have n2 : y.1 ≠ r := fun k => hnr (k ▸ hy3)
    exact ⟨us, by rw [if_neg n1, if_neg n2]; exact u1, u2⟩
  · by_cases e1 : a = l
    · exact .inl e1
    · rw [if_neg e1] at ha
      by_cases e2 : a = r
      · rw [if_pos e2] at ha; exact absurd rfl ha
      · rw [if_neg e2] at ha
        rcases h.all a ha with z | z
        · exact .inl z
        · refine .inr ?_
          rw [em]
          obtain ⟨i, hi⟩ := List.getElem?_of_mem z
          refine List.mem_eraseIdx_iff_getElem?.mpr ⟨i, ?_, hi⟩
          intro k
          subst k
          rw [List.getElem?_map, hn] at hi
          exact e2 (Option.some.inj hi).symm
  · dsimp only at e
    by_cases e1 : a = l
    · subst e1
      rw [if_pos rfl] at e
      rw [upd_same]
      exact e
    · rw [if_neg e1] at e
      rw [upd_ne e1]
      by_cases e2 : a = r
      · rw [if_pos e2] at e; cases e
      · rw [if_neg e2] at e
        exact hs a u e
  · dsimp only at ha
    by_cases e1 : a = l
    · rw [e1]; exact hOl
    · rw [if_neg e1] at ha
      by_cases e2 : a = r
      · rw [if_pos e2] at ha; exact absurd rfl ha
      · rw [if_neg e2] at ha; exact ha
/-- l.append([..]): a new row -/
theorem ev_appRow (F : Fam X P w K mg base A N) (k : Nat) {l : Addr} {qr : List (Addr × List PyData)} {ds : List PyData} {apos : Pos} (ho : EvJ X K E Γ R o R (sv (.ref l))) (ha : EvL X K E Γ R e R ds) (hk : R[k]? = some (rRw l qr)) (hz : qr.length < 10000000)
    (hbase : ∀ i, attributeBase o "append" (X i).env (eval o (X i).env) = eval o (X i).env := by exact fun _ => rfl)
    (hfew : ∀ i, ((backTo pos (starEach [e] (X i).env)).all (fun x => !x.1) && (backToKw pos (keywordEach [] (X i).env)).all (fun x => x.1.isSome) && decide ([e].length + ([] : List Keyword).length + (if ([] : List Keyword).isEmpty then 0 else 1) < 30)) = true := by exact fun _ => rfl)
    (hline : (apos.endLine == pos.line) = true := by rfl) (hs : ∀ i, starEach [e] (X i).env = (false, eval e (X i).env) :: starEach [] (X i).env := by exact fun _ => rfl) (hplain : ∀ i, (backTo pos (starEach [] (X i).env)).any (·.1) = false := by exact fun _ => rfl) :
    EvN X K E Γ R (.Call (.Attribute o "append" apos) [e] [] pos) (fun r : Addr => R.set k (rRw l (qr ++ [(r, ds)]))) (fun _ => dN) := by
  obtain ⟨to, o1, o2⟩ := ho
  obtain ⟨ta, a1, a2⟩ := arn_cons ha (fun n => arn_nil) hs
  refine ⟨tBM K "list" rAppend to ta, fun i => by rw [← F.fK i]; exact pe_bm PySem.F.plainAttrs_list PySem.F.slot_list_append PySem.F.type_list_append mt_append (o1 i) (a1 i) (hbase i) (hfew i) hline (hs i) (hplain i), fun S σ H Q q kk => o2 S σ H _ q fun v S1 H1 e1 q1 r1 => ?_⟩
  cases (show v = .ref l from r1)
  have cell : ∀ {S : Hp} {σ : L2.St} {H : Hp} {R' : List Res}, SR K E Γ (R ++ R') S σ H → H l = some (.lst (qr.map fun x => V.ref x.1)) := fun q => by
    obtain ⟨O, h, g⟩ := q.res k (by rw [List.getElem?_append_left (List.getElem?_eq_some_iff.mp hk).1]; exact hk)
    exact g _ _ h.main
  refine ⟨.inl ⟨rfl, _, SqL.of (cell (R' := []) (by rw [List.append_nil]; exact q1))⟩, ?_⟩
  refine a2 S1 σ H1 _ q1 fun n vs S2 H2 e2 q2 r2 => ?_
  obtain ⟨r, _⟩ := n
  obtain ⟨u, rfl, r3⟩ := all2_one r2
  cases (show u = .ref r from r3)
  have hc := cell q2
  refine ⟨l, _, _, rfl, rfl, hc, by rw [List.length_map]; have : (sizeLine : Nat) = 16777216 := sizeLine_eq; omega, ?_⟩
  exact kk r _ S2 _ (e1.trans e2) (q2.merge k hk fun O O2 h1 h2 hs1 hs2 hdj => rw_app h1 h2 hs1 hs2 hdj) rfl
/-- l.remove(row) -/
theorem ev_remRow {n0 : Nat} (F : Fam X P w K mg base A N) (hr : Room n0 A) (k : Nat) {l r : Addr} {qr : List (Addr × List PyData)} {ds : List PyData} {n : Nat} {apos : Pos} (ho : EvJ X K E Γ R o R (sv (.ref l))) (ha : EvJ X K E Γ R e R (sv (.ref r))) (hk : R[k]? = some (rRw l qr)) (hn : qr[n]? = some (r, ds)) (hdep : ∀ x ∈ qr, dep 32 (.list x.2)) (hno : ∀ m, m < n → ∀ x, qr[m]? = some x → PyData.eqv (.list x.2) (.list ds) = false)
    (hbase : ∀ i, attributeBase o "remove" (X i).env (eval o (X i).env) = eval o (X i).env := by exact fun _ => rfl)
    (hfew : ∀ i, ((backTo pos (starEach [e] (X i).env)).all (fun x => !x.1) && (backToKw pos (keywordEach [] (X i).env)).all (fun x => x.1.isSome) && decide ([e].length + ([] : List Keyword).length + (if ([] : List Keyword).isEmpty then 0 else 1) < 30)) = true := by exact fun _ => rfl)
    (hline : (apos.endLine == pos.line) = true := by rfl) (hs : ∀ i, starEach [e] (X i).env = (false, eval e (X i).env) :: starEach [] (X i).env := by exact fun _ => rfl) (hplain : ∀ i, (backTo pos (starEach [] (X i).env)).any (·.1) = false := by exact fun _ => rfl) :
    EvJ X K E Γ R (.Call (.Attribute o "remove" apos) [e] [] pos) (R.set k (rRw l (qr.eraseIdx n))) dN := by
  refine ev_mt F PySem.F.plainAttrs_list PySem.F.slot_list_remove PySem.F.type_list_remove ho (ar_cons ha ar_nil hs) ⟨rRemR K, fun j => by rw [← F.fK j]; exact mt_remR (by rw [F.fA j]; exact hr.units), fun Γ S σ H x q r => ?_, fun Γ S σ H x xs Q q r1 r2 k' => ?_⟩ hbase hfew hline hs hplain
  · cases (show x = .ref l from r)
    obtain ⟨O, h, g⟩ := q.res k hk
    exact .inl ⟨rfl, _, SqL.of (g _ _ h.main)⟩
  · cases (show x = .ref l from r1)
    obtain ⟨v, rfl, r3⟩ := all2_one r2
    cases (show v = .ref r from r3)
    obtain ⟨O, h, g⟩ := q.res k hk
    have hmem := List.mem_of_getElem? hn
    let D : Addr → PyData := fun a => match qr.find? fun x => decide (x.1 = a) with
      | some x => .list x.2
      | none => .none
    have hD : ∀ y ∈ qr, D y.1 = .list y.2 := fun y hy => by
      show (match qr.find? fun x => decide (x.1 = y.1) with | some x => PyData.list x.2 | none => .none) = _
      have hf : ∃ z, (qr.find? fun x => decide (x.1 = y.1)) = some z := by
        cases e : qr.find? fun x => decide (x.1 = y.1) with
        | some z => exact ⟨z, rfl⟩
        | none => have := List.find?_eq_none.mp e y hy; simp at this
      obtain ⟨z, hz⟩ := hf
      rw [hz]
      have h1 : z.1 = y.1 := by simpa using List.find?_some hz
      have h2 := List.mem_of_find?_eq_some hz
      have : z = y := by
        obtain ⟨i1, hi1⟩ := List.getElem?_of_mem h2
        obtain ⟨i2, hi2⟩ := List.getElem?_of_mem hy
        obtain ⟨a1, a2⟩ := List.getElem?_eq_some_iff.mp hi1
        obtain ⟨b1, b2⟩ := List.getElem?_eq_some_iff.mp hi2
        by_cases e : i1 = i2
        · subst e; rw [hi1] at hi2; exact Option.some.inj hi2
        · exfalso
          have l1 : i1 < (qr.map Prod.fst).length := by rw [List.length_map]; exact a1
          have l2 : i2 < (qr.map Prod.fst).length := by rw [List.length_map]; exact b1
          rcases Nat.lt_or_gt_of_ne e with z2 | z2
          · exact (List.pairwise_iff_getElem.mp h.nd) i1 i2 l1 l2 z2 (by simp [a2, b2, h1])
          · exact (List.pairwise_iff_getElem.mp h.nd) i2 i1 l2 l1 z2 (by simp [a2, b2, h1])
      rw [this]
    refine ⟨l, r, qr.map Prod.fst, D, n, rfl, rfl, by rw [g _ _ h.main, List.map_map]; rfl, fun a ha => ?_, by rw [List.getElem?_map, hn]; rfl, fun m hm a ha => ?_, ?_⟩
    · obtain ⟨y, hy, rfl⟩ := List.mem_map.mp ha
      obtain ⟨us, u1, u2⟩ := h.rows y hy
      rw [hD y hy]
      refine ⟨.lst (SqL.of (g _ _ u1)) (daAll_dp (daAll_same q.sub u2)), ?_, hdep y hy⟩
      rw [PyData.plain]
      exact daAll_plain u2
    · rw [List.getElem?_map] at ha
      cases e : qr[m]? with
      | none => rw [e] at ha; cases ha
      | some y =>
        rw [e] at ha
        cases ha
        rw [hD y (List.mem_of_getElem? e), hD (r, ds) hmem]
        exact hno m hm y e
    · refine k' _ S _ (Same.refl _) (q.putM k hk fun O' h' hsm => ?_) rfl
      exact rw_del hn h' hsm
/-! ### methods that raise -/
abbrev BodyXc (P : Program) (w : World) (K : PySem.W.Frag) (mg : Str → Option Value) (base : Heap) (N : List Str) (qual : Str) (st : Stmt) (fa : Addr) (k : Nat) (C : Addr) (as : List Sl) (Rs Rn : List Res) : Prop := BodyX P w K mg base N qual st fa k C as Rs Rn
theorem fnXc {θ : Type} {pre : θ → Prop} {as : θ → List Sl} {Rs Rn : θ → List Res} {C : θ → Addr} {x qual : Str} {st : Stmt} {f : Addr} {fd : FuncData} {k : Nat} (F : Fun K x qual st f fd) (Sc : FnScope N ps (defScope st)) (hlen : ∀ i, (as i).length = ps.length)
    (hb : ∀ i, pre i → BodyX P w K mg base N qual st f k (C i) (as i) (Rs i) (Rn i)) : FnOk P w K mg base (L2N.CX P w) (k + 1) f fd ps (spRc K pre as Rs C Rn) := by
  refine okN F Sc (fun vs H Q E ⟨i, S0, Os, h1, h2, h3, h4, h5⟩ => by rw [← h3.len]; exact hlen i) (fun cdv A outer s H vs Q E hr ⟨i, S0, Os, h1, h2, h3, h4, h5⟩ => ?_)
  obtain ⟨t, t1, t2⟩ := hb i h1 cdv A outer s H S0 (InOs Os) E (fun cls d _ H => E cls d H) Q hr (fam_fxr Sc) (fun _ => L2N.takes_of rfl rfl rfl rfl) (fun _ => passes_of rfl) (fun Γ S σ H' q => by
    obtain ⟨Os', g1, g2⟩ := q.own
    exact h5 S H' Os' q.fr q.sub q.ext q.new g1 (fun O hO a ha => g2 O hO a ha))
  refine ⟨t, t1 (), t2 S0 (L2.start N vs) H (Same.refl _) ⟨h2, Same.refl _, fun _ _ e _ => e, fun a ha => .inl ha, ⟨Os, h4, fun O hO a ha => .inl ⟨O, hO, ha⟩⟩, ?_⟩⟩
  unfold L2.start
  rw [h3.len]
  exact (slots_args h3).app (replicate_slots _)
theorem spR_rc {θ : Type} {pre : θ → Prop} {as : θ → List Sl} {Rs Rn : θ → List Res} : spR K pre as Rs C Rn = spRc K pre as Rs (fun _ => C) Rn := rfl
theorem evr_callGc {θ : Type} {pre : θ → Prop} {as : θ → List Sl} {Rs Rn : θ → List Res} {C : θ → Addr} (F : Fam X P w K mg base A N) (Cl : CalR P w K mg base A f ps (spRc K pre as Rs C Rn)) (tk : ∀ i, L2N.Takes (X i) W) (i : θ) (Ra Rb : List Res) (ha : ArJ X K E Γ R (e :: es) R1 (as i)) (hR : R1 = Ra ++ Rs i ++ Rb) (hpre : pre i)
    (hg : ∀ i, Gl (X i) f := by exact fun _ => rfl) (he : ∀ i, starEach (e :: es) (X i).env = (false, eval e (X i).env) :: starEach es (X i).env := by exact fun _ => rfl) (hpl : ∀ i, (backTo pos (starEach es (X i).env)).any (·.1) = false := by exact fun _ => rfl) (hdb : (f == ("__debug__" : Str)) = false := by decide) :
    EvR X K E W Γ R (.Call (.Name f p') (e :: es) [] pos) (C i) (Ra ++ Rn i ++ Rb) := by
  obtain ⟨k, fa, fd, hF, hr, hm, hk, hb⟩ := Cl.ex
  obtain ⟨t, a1, a2⟩ := ha
  subst hR
  refine ⟨tCallS (spRc K pre as Rs C Rn) (WE W) t, fun j => ?_, fun S σ H Q q kk => a2 S σ H _ q fun vs S1 H1 e1 q1 r1 => ?_⟩
  · refine pe_callS (CX := L2N.CX (X j).prog (X j).w) (k := k) (f := fa) (fd := fd) (ps := ps) ?_ (by rw [F.fA j]; exact hr) (hg j) (by rw [F.fmg j]; exact hm) (by rw [F.fK j]; exact hk) (by rw [F.fK j]; exact hb) (fun σ => L2N.passAt (tk j) σ) (a1 j) hdb (he j) (hpl j)
    rw [F.fP j, F.fw j, F.fK j, F.fmg j, F.fbase j]
    exact hF
  · obtain ⟨Os, hOs, hgive⟩ := q1.give
    exact ⟨i, S1, Os, hpre, q1.sub, r1, hOs, fun S' H' Os' hfr hsub hext hnew hown hO => kk S' H' (e1.trans hext) (hgive _ S' H' Os' hfr hsub hext hnew hown hO)⟩
/-- o.m(e, ..), that raises -/
theorem evr_methG {θ : Type} {pre : θ → Prop} {as : θ → List Sl} {Rs Rn : θ → List Res} {Cx : θ → Addr} (F : Fam X P w K mg base A N) (Cl : MCalR P w K mg base A C m ps (spRc K pre as Rs Cx Rn)) (tk : ∀ i, L2N.Takes (X i) W) (c : Cls K C) (i : θ) (Ra Rb : List Res) (k : Nat) {p : Addr} {fs : List (Str × Sl)} (ho : EvJ X K E Γ R o R (sv (.ref p))) (ha : ArJ X K E Γ R (e :: es) R1 ss) (has : as i = sv (.ref p) :: ss) (hR : R1 = Ra ++ Rs i ++ Rb) (hpre : pre i) (hk : R[k]? = some (rI p C fs)) (hm : lk fs m = none)
    {pl : ι → Sem Bool} (hst : ∀ i, starEach (e :: es) (X i).env = (false, eval e (X i).env) :: starEach es (X i).env := by exact fun _ => rfl) (hpl : ∀ i, (backTo pos (starEach es (X i).env)).any (·.1) = false := by exact fun _ => rfl)
    (ht : ∀ i, eval (.Call (.Attribute o m apos) (e :: es) [] pos) (X i).env = (do
      let ov ← eval o (X i).env
      standAt apos.atName
      let (f, first) ← holding [ov] (getMethod ov m (pl i))
      callWith pos f first (backTo pos (starEach (e :: es) (X i).env)) (backToKw pos (keywordEach [] (X i).env))) := by exact fun _ => rfl) :
    EvR X K E W Γ R (.Call (.Attribute o m apos) (e :: es) [] pos) (Cx i) (Ra ++ Rn i ++ Rb) := by
  obtain ⟨kk0, fa, fd, hF, hr, hme, hb⟩ := Cl.ex
  obtain ⟨t, a1, a2⟩ := ha
  obtain ⟨to, o1, o2⟩ := ho
  subst hR
  refine ⟨fun σ H Q => to σ H fun x H1 => ∃ a dx fs, x = .ref a ∧ H1 a = some (.ins C dx fs) ∧ fs.lookup m = none ∧ t σ H1 fun vs H2 => spRc K pre as Rs Cx Rn (x :: vs) H2 Q (WE W σ), fun j => ⟨fun pins s σ H Q I h => ?_⟩, fun S σ H Q q kk => o2 S σ H _ q fun vo S1 H1 e1 q1 r1 => ?_⟩
  · refine PySem.W.methodCall_KW (pl := pl j) (thn ((o1 j).run pins s σ H _ I h) fun u s1 ⟨x, H1, I1, rx, a, dx, fs, ex, ea, l, q⟩ => ?_) (ht j)
    subst ex
    obtain rfl : u = Value.ref a := rx
    refine getmeth_ok I1 ea (by rw [F.fK j]; exact c) (by rw [F.fK j]; exact hme) l ?_
    refine PySem.W.callWith_K (first := [.ref a]) (h₀ := (X j).base) I1.ok.mod.kin (by rw [F.fK j]; exact hme.kp) (thn ((a1 j).run pos pins s1 σ H1 _ I1 q) fun us s2 ⟨vs, H2, I2, r, q2⟩ => ⟨I2.kIn, ?_⟩) (hst j) (hpl j)
    refine run_fnS (CX := L2N.CX (X j).prog (X j).w) (k := kk0) (fd := fd) (ps := ps) (E := WE W) (us := .ref a :: us) (vs := .ref a :: vs) ?_ (by rw [F.fA j]; exact hr) (by rw [F.fK j]; exact hb) (L2N.passAt (tk j) σ) I2 (.cons rfl r) q2
    rw [F.fP j, F.fw j, F.fK j, F.fmg j, F.fbase j]
    exact hF
  · cases (show vo = .ref p from r1)
    obtain ⟨O, ⟨dx, fvs, e, g⟩, g2⟩ := q1.res k hk
    subst e
    have hlk : fvs.lookup m = none := by
      rcases frs_look m g with ⟨_, z⟩ | ⟨s', v, z1, _⟩
      · exact z
      · rw [hm] at z1; cases z1
    refine ⟨p, dx, fvs, rfl, g2 p _ hOne_same, hlk, a2 S1 σ H1 _ q1 fun vs S2 H2 e2 q2 r2 => ?_⟩
    obtain ⟨Os, hOs, hgive⟩ := q2.give
    exact ⟨i, S2, Os, hpre, q2.sub, by rw [has]; exact .cons rfl r2, hOs, fun S' H' Os' hfr hsub hext hnew hown hO => kk S' H' ((e1.trans e2).trans hext) (hgive _ S' H' Os' hfr hsub hext hnew hown hO)⟩
end
end SL

/-! a hall: its state as data, its cells -/
namespace SL
open PySem PySem.Spec PyProof.Rows L2
def oS : Option Str → V
  | none => .non
  | some x => .str x
abbrev dSO (o : Option Str) : Sl := sv (oS o)
theorem oS_inj {o o' : Option Str} (h : oS o = oS o') : o = o' := by
  cases o <;> cases o'
  · rfl
  · exact nomatch h
  · exact nomatch h
  · rw [V.str.inj h]
theorem dOS_SO (o : Option Str) : dOS o = dSO o := by cases o <;> rfl
theorem oS_scal (o o' : Option Str) : scal (oS o) (oS o') = true := by cases o <;> cases o' <;> rfl
structure RowS where
  name : Str
  zone : Str
  wt : Int
  well : Bool
  cnt : Int
  dr : Bool
structure HS where
  size : Int
  rise : Int
  fall : Int
  extra : Int
  rows : List RowS
  stand : List (Str × Option Str)
  last : List (Str × Str)
  log : List PyData
structure HA where
  p : Addr
  rl : Addr
  st : Addr
  la : Addr
  en : Addr
  qs : List Addr
def rowD (r : RowS) : List PyData := [.str r.name, .str r.zone, .int r.wt, .tuple [.str (wdA r.well), .int r.cnt], .bool r.dr]
def hallF (a : HA) (h : HS) : List (Str × Sl) := [("size", dI h.size), ("counts", sd (.tuple [.int h.rise, .int h.fall])), ("extra", dI h.extra), ("rows", sv (.ref a.rl)), ("stand", sv (.ref a.st)), ("last", sv (.ref a.la)), ("entries", sv (.ref a.en))]
def hallR (C : Addr) (a : HA) (h : HS) : List Res := [rI a.p C (hallF a h), rRw a.rl (a.qs.zip (h.rows.map rowD)), rDs a.st (onV dSO h.stand), rDs a.la (onV dS h.last), rL a.en h.log]
/-- what always holds of a hall -/
structure HOk (a : HA) (h : HS) : Prop where
  len : a.qs.length = h.rows.length
  few : h.rows.length ≤ 100
  asks : h.stand.length ≤ 1000
  lasts : h.last.length ≤ 1000
  logs : h.log.length ≤ 100000
  size : 0 < h.size
  extra : 0 ≤ h.extra ∧ h.extra ≤ 1000
  rows : ∀ r ∈ h.rows, nmOk r.name ∧ r.zone.length ≤ 9 ∧ 1 ≤ r.wt ∧ r.wt ≤ 20
  nd : (h.rows.map RowS.name).Nodup
  snd : (h.stand.map Prod.fst).Nodup
  lnd : (h.last.map Prod.fst).Nodup
theorem row_at {a : HA} {h : HS} (ok : a.qs.length = h.rows.length) {n : Nat} {r : RowS} (hn : h.rows[n]? = some r) : ∃ q, a.qs[n]? = some q ∧ (a.qs.zip (h.rows.map rowD))[n]? = some (q, rowD r) := by
  have hl := (List.getElem?_eq_some_iff.mp hn).1
  have e : a.qs[n]? = some (a.qs[n]'(by omega)) := List.getElem?_eq_getElem _
  refine ⟨_, e, ?_⟩
  rw [List.getElem?_zip_eq_some]
  refine ⟨e, ?_⟩
  rw [List.getElem?_map, hn]
  rfl
theorem zip_fst {a : HA} {h : HS} (ok : a.qs.length = h.rows.length) : (a.qs.zip (h.rows.map rowD)).map Prod.fst = a.qs := List.map_fst_zip (by rw [List.length_map]; omega)
/-! what is told of it -/
def heldH (h : HS) (n : Str) : Nat := (h.stand.filter fun x => decide (x.2 = some n)).length
def sxH (h : HS) (r : RowS) : Sx := (r.name, r.zone, r.wt, r.well, r.dr, (heldH h r.name : Int))
def serversH (h : HS) : List Sx := h.rows.map (sxH h)
def liveH (h : HS) : List Sx := (serversH h).filter liveA
structure Mak (P : Program) (w : World) (K : PySem.W.Frag) (mg : Str → Option Value) (base : Heap) (C : Addr) (x : Str) (ps : List Str) (k : Nat) (sp : Sp) : Prop where
  ex : ∃ (fa : Addr) (fd : FuncData), FnOk P w K mg base CX0 k fa fd ps sp ∧ Mk K C fa ∧ mg x = some (.ref C) ∧ Binds K fd ps []
section
variable {ι : Type} {X : ι → Cx} {K : PySem.W.Frag} {E : Ent} {B : Hp} {Γ Γ' : Slots} {R R' R1 R2' R3 Ra Rb Rs : List Res} {a b c e o : Expr} {es : List Expr} {pos p' apos : Pos} {s s1 s2 s3 : Sl} {ss : List Sl}
  {P : Program} {w : World} {mg : Str → Option Value} {base : Heap} {A : Around} {N ps : List Str} {rest sts bd : List Stmt} {D : Ends} {S S' H H' : Hp} {σ σ' : L2.St} {f m : Str} {C : Addr} {i j : Int} {x : Str} {W : WX}
theorem br_eqSO {u : Option Str} : BinR X K E (compareOp .Eq) R (dSO u) (dS x) (dB (decide (u = some x))) := by
  have h := br_eqV (X := X) (K := K) (E := E) (R := R) (v := oS u) (u := oS (some x)) (oS_scal _ _)
  have e : decide (oS u = oS (some x)) = decide (u = some x) := decide_eq_decide.mpr ⟨oS_inj, congrArg oS⟩
  rw [e] at h
  exact h
/-- a name that is not in a dict -/
theorem lk_on {l : List (Str × Option Str)} {x : Str} (f : Option Str → Sl) : lk (onV f l) x = (lk l x).map f := lk_onV f l x
/-- for a, b, .. in rows, each row a list of one's own -/
theorem blk_forU {qr : List (Addr × List PyData)} {tgs : List Expr} {kx n : Nat} {iter : Expr} {us : List Nat} {its : List PyData → List Sl} {up : List PyData → Slots → Slots} {tp : Pos} (G : List (Addr × List PyData) → Slots) (RR : List (Addr × List PyData) → List Res)
    (F : Fam X P w K mg base A N) (hp : ∀ i, PassesOwn (model (X i).prog (X i).w) (X i).A (X i).env (X i).xe) {l : Addr} (hi : EvJ X K E Γ R iter R1 (sv (.ref l))) (k : Nat) (hk : R1[k]? = some (rRw l qr)) (htg : TgsA X K E tgs its n up us) (hits : ∀ y, its y = y.map sl ∨ y.length ≠ n)
    (hlen : ∀ y ∈ qr, y.2.length = n) (h0 : ∀ S σ H, SR K E Γ R1 S σ H → SR K E (G []) (RR []) S σ H) (hC : ∀ pre, (RR pre)[k]? = some (rRw l qr))
    (hb : ∀ pre x post B' (Z : L2.St → Hp → Prop), qr = pre ++ x :: post → Blk X K E B' (up x.2 (G pre)) (RR pre) bd { nx := Pst K E B' (G (pre ++ [x])) (RR (pre ++ [x])), rt := D.rt, bk := Z, ct := Pst K E B' (G (pre ++ [x])) (RR (pre ++ [x])) })
    (hr : Blk X K E B (G qr) (RR qr) rest D) (hn : ∀ i, (assignEach tgs (X i).env).length = n := by exact fun _ => rfl)
    (hst : ∀ i, (assignEach tgs (X i).env).findIdx? (·.1) = none := by exact fun _ => rfl) (hs : ∀ i x, foldedSetIterable iter (X i).env x = pure x := by exact fun _ _ => rfl) (hcm : ∀ i, (X i).calm = true := by exact fun _ => rfl) : Blk X K E B Γ R (.For (.Tuple tgs kx tp) iter bd [] pos :: rest) D := by
  obtain ⟨wi, w1, w2⟩ := it_rows (tg := .Tuple tgs kx tp) F hi k ⟨qr, hk, rfl⟩
  obtain ⟨hl, g, t1, t2⟩ := htg
  obtain ⟨tr, r1, r2⟩ := hr
  have hb' := fun (n : { q : List (Addr × List PyData) × (Addr × List PyData) × List (Addr × List PyData) × Hp × (L2.St → Hp → Prop) // qr = q.1 ++ q.2.1 :: q.2.2.1 }) => Classical.choose_spec (hb n.1.1 n.1.2.1 n.1.2.2.1 n.1.2.2.2.1 n.1.2.2.2.2 n.2)
  refine ⟨tSeq (tFor wi (gLst K n g) _) tr, fun i => pss_cons (ps_for (hp i) (hcm i) (w1 i) (by rw [← F.fK i]; exact pg_lst (hcm i) (t1 i) (hn i) (hst i)) (pss_any fun n => (hb' n).1 i) (hs i)) (r1 i), fun S σ H b q => ?_⟩
  refine w2 S σ H _ q fun J S1 H1 e1 q1 hJ => ?_
  refine ⟨fun n m σ H => m = qr.length - n ∧ n ≤ qr.length ∧ ∃ S', Same S1 S' ∧ SR K E (G (qr.take n)) (RR (qr.take n)) S' σ H, ⟨qr.length, by simp, Nat.zero_le _, S1, Same.refl _, h0 S1 σ H1 q1⟩, ?_⟩
  rintro n' m σ2 H2 ⟨rfl, hn', S2, e2, q2⟩
  obtain ⟨g1, g2⟩ := hJ n' _ _ S2 σ2 H2 e2 q2 ⟨qr, hC _, rfl⟩
  by_cases hlt : n' < qr.length
  · have hx : qr[n']? = some qr[n'] := List.getElem?_eq_getElem hlt
    have hsplit : qr = qr.take n' ++ qr[n'] :: qr.drop (n' + 1) := by rw [← List.drop_eq_getElem_cons hlt, List.take_append_drop]
    have htake : qr.take (n' + 1) = qr.take n' ++ [qr[n']] := by rw [List.take_succ, hx]; rfl
    obtain ⟨go, hy⟩ := g1 (sv (.ref qr[n'].1)) (by rw [List.getElem?_map, hx]; rfl)
    refine .inr ⟨go, Pst K E S2 (G (qr.take n' ++ [qr[n']])) (RR (qr.take n' ++ [qr[n']])), fun σ' H' ⟨S', e', q'⟩ => ⟨qr.length - (n' + 1), by omega, rfl, hlt, S', e2.trans e', by rw [htake]; exact q'⟩, fun x H' hx' => ?_⟩
    obtain ⟨S3, e3, q3, r3⟩ := hy x H' hx'
    cases (show x = .ref qr[n'].1 from r3)
    obtain ⟨vs, c1, c2⟩ := rw_row (q := q3) k (hC _) (show qr[n']? = some (qr[n'].1, qr[n'].2) from hx)
    have hl2 := daAll_len c2
    have hln := hlen _ (List.getElem_mem hlt)
    refine ⟨_, vs, rfl, SqL.of c1, by omega, ?_⟩
    refine t2 qr[n'].2 _ _ S3 σ2 H' vs _ q3 ?_ fun σ4 q4 _ _ => ?_
    · rcases hits qr[n'].2 with z | z
      · rw [z]; exact daAll_sl c2
      · exact absurd hln z
    exact ⟨⟨(qr.take n', qr[n'], qr.drop (n' + 1), S2, _), hsplit⟩, (hb' ⟨(qr.take n', qr[n'], qr.drop (n' + 1), S2, _), hsplit⟩).2 S3 σ4 H' e3 q4⟩
  · have e : n' = qr.length := by omega
    subst e
    rw [List.take_length] at q2
    exact .inl ⟨g2 (by rw [List.length_map]; exact Nat.le_refl _), r2 S2 σ2 H2 (b.trans (e1.trans e2)) q2⟩
end
end SL

/-! a hall's fields, rows by places -/
namespace SL
open PySem PySem.Spec PyProof.Rows L2
section
variable {a : HA} {h : HS}
theorem hf_size : lk (hallF a h) "size" = some (dI h.size) := by unfold hallF; rw [lk_pos (by decide +kernel)]
theorem hf_counts : lk (hallF a h) "counts" = some (sd (.tuple [.int h.rise, .int h.fall])) := by unfold hallF; rw [lk_neg (by decide +kernel), lk_pos (by decide +kernel)]
theorem hf_extra : lk (hallF a h) "extra" = some (dI h.extra) := by unfold hallF; rw [lk_neg (by decide +kernel), lk_neg (by decide +kernel), lk_pos (by decide +kernel)]
theorem hf_rows : lk (hallF a h) "rows" = some (sv (.ref a.rl)) := by unfold hallF; rw [lk_neg (by decide +kernel), lk_neg (by decide +kernel), lk_neg (by decide +kernel), lk_pos (by decide +kernel)]
theorem hf_stand : lk (hallF a h) "stand" = some (sv (.ref a.st)) := by unfold hallF; rw [lk_neg (by decide +kernel), lk_neg (by decide +kernel), lk_neg (by decide +kernel), lk_neg (by decide +kernel), lk_pos (by decide +kernel)]
theorem hf_last : lk (hallF a h) "last" = some (sv (.ref a.la)) := by unfold hallF; rw [lk_neg (by decide +kernel), lk_neg (by decide +kernel), lk_neg (by decide +kernel), lk_neg (by decide +kernel), lk_neg (by decide +kernel), lk_pos (by decide +kernel)]
theorem hf_entries : lk (hallF a h) "entries" = some (sv (.ref a.en)) := by unfold hallF; rw [lk_neg (by decide +kernel), lk_neg (by decide +kernel), lk_neg (by decide +kernel), lk_neg (by decide +kernel), lk_neg (by decide +kernel), lk_neg (by decide +kernel), lk_pos (by decide +kernel)]
theorem hf_none {m : Str} (hm : (["size", "counts", "extra", "rows", "stand", "last", "entries"] : List Str).all (fun x => decide (¬ x = m)) = true) : lk (hallF a h) m = none := by
  have g := fun x hx => of_decide_eq_true (List.all_eq_true.mp hm x hx)
  unfold hallF
  rw [lk_neg (g _ (by simp)), lk_neg (g _ (by simp)), lk_neg (g _ (by simp)), lk_neg (g _ (by simp)), lk_neg (g _ (by simp)), lk_neg (g _ (by simp)), lk_neg (g _ (by simp)), lk_nil]
end
theorem mid_at {α : Type} {l pre post : List α} {x : α} (h : l = pre ++ x :: post) : l[pre.length]? = some x := by rw [h]; simp
theorem zip_at {a : HA} {h : HS} {n : Nat} {x : Addr × List PyData} (hx : (a.qs.zip (h.rows.map rowD))[n]? = some x) : ∃ r, h.rows[n]? = some r ∧ x.2 = rowD r ∧ a.qs[n]? = some x.1 := by
  obtain ⟨q, d⟩ := x
  obtain ⟨h1, h2⟩ := List.getElem?_zip_eq_some.mp hx
  rw [List.getElem?_map] at h2
  cases e : h.rows[n]? with
  | none => rw [e] at h2; cases h2
  | some r =>
    rw [e] at h2
    cases h2
    exact ⟨r, rfl, rfl, h1⟩
theorem nd_at {α β : Type} {f : α → β} {l : List α} {i j : Nat} {x y : α} (nd : (l.map f).Nodup) (hi : l[i]? = some x) (hj : l[j]? = some y) (e : f x = f y) : i = j := by
  obtain ⟨a1, a2⟩ := List.getElem?_eq_some_iff.mp hi
  obtain ⟨b1, b2⟩ := List.getElem?_eq_some_iff.mp hj
  by_cases k : i = j
  · exact k
  · exfalso
    rcases Nat.lt_or_gt_of_ne k with z | z
    · exact (List.pairwise_iff_getElem.mp nd) i j (by rw [List.length_map]; exact a1) (by rw [List.length_map]; exact b1) z (by simp [a2, b2, e])
    · exact (List.pairwise_iff_getElem.mp nd) j i (by rw [List.length_map]; exact b1) (by rw [List.length_map]; exact a1) z (by simp [a2, b2, e])
theorem lk_mem {β : Type} : ∀ {l : List (Str × β)} {x : Str × β}, (l.map Prod.fst).Nodup → x ∈ l → lk l x.1 = some x.2
  | [], _, _, h => nomatch h
  | y :: l, x, nd, h => by
    rw [List.map_cons, List.nodup_cons] at nd
    rcases List.mem_cons.mp h with e | e
    · subst e; exact lk_pos rfl
    · obtain ⟨k, v⟩ := y
      rw [lk_neg fun z => nd.1 (List.mem_map.mpr ⟨x, e, z.symm⟩)]
      exact lk_mem nd.2 e
theorem zip_len {a : HA} {h : HS} (ok : a.qs.length = h.rows.length) : (a.qs.zip (h.rows.map rowD)).length = h.rows.length := by rw [List.length_zip, List.length_map]; omega
theorem take_succ' {α : Type} {l : List α} {n : Nat} {x : α} (h : l[n]? = some x) : l.take (n + 1) = l.take n ++ [x] := by rw [List.take_succ, h]; rfl
section
variable {ι : Type} {X : ι → Cx} {K : PySem.W.Frag} {E : Ent} {W : WX} {Γ : Slots} {R R' : List Res} {a b : Expr} {pos : Pos} {C : Addr}
/-- e[i], e raises -/
theorem evr_ix (h : EvR X K E W Γ R a C R') (hp : PlainIx b := by exact fun _ _ => rfl) : EvR X K E W Γ R (.Subscript a b pos) C R' := by
  obtain ⟨t, a1, a2⟩ := h
  refine ⟨tOp (fun _ _ _ _ => False) t (fun _ _ _ => False), fun i => pe_ix (fun _ _ _ _ _ _ _ _ _ _ _ _ _ _ h _ => h.elim) (a1 i) pe_never hp, fun S σ H Q q kk => a2 S σ H _ q kk⟩
end
end SL

/-! a hall's deeds -/
namespace SL
open PySem PySem.Spec PyProof.Rows L2
section
variable {ι : Type} {X : ι → Cx} {K : PySem.W.Frag} {E : Ent} {B : Hp} {W : WX} {Γ : Slots} {R R' R1 : List Res} {a b e : Expr} {rest : List Stmt} {D : Ends} {pos : Pos} {C : Addr} {s : Sl}
theorem blk_exprN {ν : Type} {Rn : ν → List Res} {sn : ν → Sl} (he : EvN X K E Γ R e Rn sn) (hr : ∀ n, Blk X K E B Γ (Rn n) rest D) (hs : ∀ i, swapsWith e none pos.line (X i).env = pure false := by exact fun _ => rfl) : Blk X K E B Γ R (.Expr e pos :: rest) D := by
  obtain ⟨t, h1, h2⟩ := he
  have hr' := fun n => Classical.choose_spec (hr n)
  exact ⟨tSeq (tDrop t) _, fun i => pss_cons (ps_expr (h1 i) (hs i)) (pss_any fun n => (hr' n).1 i), fun S σ H b q => h2 S σ H _ q fun n v S1 H1 e1 q1 r1 => ⟨n, (hr' n).2 S1 σ H1 (b.trans e1) q1⟩⟩
/-- a body's end: None -/
theorem blk_non {ν : Type} {Rn : ν → List Res} {res : ν → Sl} {Q : VK} (hq : RetOk K E Rn res Q) (n : ν) (hR : R = Rn n) (hres : res n = dN) (hD : D.nx = fun _ H' => Q .non H') : Blk X K E B Γ R [] D :=
  blk_nil fun S σ H b q => by rw [hD]; exact hq n Γ S σ H .non (hR ▸ q) (by rw [hres]; rfl)
/-- return, of what is one's own as it stands -/
theorem retR {ν : Type} {Rn : ν → List Res} {res : ν → Sl} {Q : VK} (hq : RetOk K E Rn res Q) (n : ν) (hR : R1 = Rn n) (h : ∀ K S v, s.r K S v → (res n).r K S v) : ∀ S σ H v, SR K E Γ R1 S σ H → s.r K S v → Q v H :=
  fun S σ H v q r => hq n Γ S σ H v (hR ▸ q) (h K S v r)
end
theorem zip_snd {β : Type} {a : HA} {h : HS} (ok : a.qs.length = h.rows.length) (g : List PyData → β) : ((a.qs.zip (h.rows.map rowD)).map fun x => g x.2) = h.rows.map fun r => g (rowD r) := by
  have e : ((a.qs.zip (h.rows.map rowD)).map fun x => g x.2) = ((a.qs.zip (h.rows.map rowD)).map Prod.snd).map g := by rw [List.map_map]; rfl
  rw [e, List.map_snd_zip (by rw [List.length_map]; omega), List.map_map]
  rfl
theorem zip_app {a : HA} {h : HS} (ok : a.qs.length = h.rows.length) (q : Addr) (r : RowS) : (a.qs ++ [q]).zip ((h.rows ++ [r]).map rowD) = a.qs.zip (h.rows.map rowD) ++ [(q, rowD r)] := by
  rw [List.map_append, List.zip_append (by rw [List.length_map]; exact ok)]
  rfl
theorem zip_set' {α β : Type} {q : α} {y : β} : ∀ {xs : List α} {ys : List β} {n : Nat}, xs[n]? = some q → xs.zip (ys.set n y) = (xs.zip ys).set n (q, y)
  | [], _, _, h => by simp at h
  | x :: xs, [], n, h => by simp
  | x :: xs, z :: ys, 0, h => by
    simp at h
    subst h
    rfl
  | x :: xs, z :: ys, n + 1, h => by
    show (x, z) :: xs.zip (ys.set n y) = (x, z) :: (xs.zip ys).set n (q, y)
    rw [zip_set' (by simpa using h)]
theorem zip_set {qs : List Addr} {rows : List RowS} {n : Nat} {q : Addr} (hq : qs[n]? = some q) (r : RowS) : qs.zip ((rows.set n r).map rowD) = (qs.zip (rows.map rowD)).set n (q, rowD r) := by
  rw [List.map_set]
  exact zip_set' hq
theorem zip_era {α β : Type} : ∀ (xs : List α) (ys : List β) (n : Nat), (xs.eraseIdx n).zip (ys.eraseIdx n) = (xs.zip ys).eraseIdx n
  | [], ys, n => by simp
  | x :: xs, [], n => by simp
  | x :: xs, y :: ys, 0 => rfl
  | x :: xs, y :: ys, n + 1 => by
    show (x, y) :: (xs.eraseIdx n).zip (ys.eraseIdx n) = (x, y) :: (xs.zip ys).eraseIdx n
    rw [zip_era xs ys n]
/-! deeds -/
def putH (h : HS) (n z : Str) (w : Int) : HS := { h with rows := h.rows ++ [⟨n, z, w, true, 0, false⟩], log := h.log ++ [.tuple [.str "put", .str n, .str z, .int w]] }
def weighH (h : HS) (i : Nat) (r : RowS) (w : Int) : HS := { h with rows := h.rows.set i { r with wt := w }, log := h.log ++ [.tuple [.str "weigh", .str r.name, .int w]] }
def drainH (h : HS) (i : Nat) (r : RowS) : HS := if r.dr then h else { h with rows := h.rows.set i { r with dr := true }, log := h.log ++ [.tuple [.str "drain", .str r.name]] }
def fillH (h : HS) (i : Nat) (r : RowS) : HS := if r.dr then { h with rows := h.rows.set i { r with dr := false }, log := h.log ++ [.tuple [.str "fill", .str r.name]] } else h
end SL

/-! a hall's moves -/
namespace SL
open PySem PySem.Spec PyProof.Rows L2
def capsA (many : Int) (ws : List Int) (extra : Int) : List Int := ws.map fun x => capA many x ws.sum extra
theorem cap_right {many weight whole extra : Int} (h : 0 < whole) : many * weight * (100 + extra) ≤ capA many weight whole extra * 100 * whole ∧ (capA many weight whole extra - 1) * 100 * whole < many * weight * (100 + extra) := by
  unfold capA
  generalize many * weight * (100 + extra) = t
  have hb : 0 < 100 * whole := by omega
  have e := Int.mul_ediv_add_emod (t + 100 * whole - 1) (100 * whole)
  have r0 := Int.emod_nonneg (t + 100 * whole - 1) (show 100 * whole ≠ 0 by omega)
  have r1 := Int.emod_lt_of_pos (t + 100 * whole - 1) hb
  generalize (t + 100 * whole - 1) / (100 * whole) = q at *
  generalize (t + 100 * whole - 1) % (100 * whole) = r at *
  have e1 : q * 100 * whole = 100 * whole * q := by rw [Int.mul_assoc, Int.mul_comm]
  have e2 : (q - 1) * 100 * whole = 100 * whole * q - 100 * whole := by rw [Int.mul_assoc, Int.sub_mul, Int.mul_comm q, Int.one_mul]
  rw [e1, e2]
  omega
theorem caps_sum {many extra : Int} {ws : List Int} (h : 0 < ws.sum) (hm : 0 ≤ many) (he : 0 ≤ extra) : many ≤ (capsA many ws extra).sum := by
  have key : ∀ (xs : List Int) (W : Int), 0 < W → many * xs.sum * (100 + extra) ≤ (xs.map fun x => capA many x W extra).sum * (100 * W) := by
    intro xs W hW
    induction xs with
    | nil => simp
    | cons x xs ih =>
      have h1 := (cap_right (many := many) (weight := x) (whole := W) (extra := extra) hW).1
      simp only [List.sum_cons, List.map_cons]
      have e1 : many * (x + xs.sum) * (100 + extra) = many * x * (100 + extra) + many * xs.sum * (100 + extra) := by rw [Int.mul_add many x, Int.add_mul (many * x)]
      rw [e1, Int.add_mul (capA _ _ _ _)]
      rw [Int.mul_assoc (capA _ _ _ _)] at h1
      exact Int.add_le_add h1 ih
  have h1 := key ws ws.sum h
  have h2 : many * ws.sum * 100 ≤ many * ws.sum * (100 + extra) := Int.mul_le_mul_of_nonneg_left (by omega) (Int.mul_nonneg hm (by omega))
  have h3 : many * (100 * ws.sum) ≤ (capsA many ws extra).sum * (100 * ws.sum) := by
    have e : many * (100 * ws.sum) = many * ws.sum * 100 := by rw [Int.mul_comm 100, Int.mul_assoc]
    rw [e]
    exact Int.le_trans h2 h1
  exact Int.le_of_mul_le_mul_right h3 (by omega)
theorem room_ge : ∀ (held caps : List Int), held.length = caps.length → caps.sum - held.sum ≤ roomD held caps
  | [], [], _ => by simp [roomD]
  | a :: held, c :: caps, h => by
    have ih := room_ge held caps (by simpa using h)
    have e : roomD (a :: held) (c :: caps) = max 0 (c - a) + roomD held caps := by simp [roomD]
    rw [e, List.sum_cons, List.sum_cons]
    omega
  | [], _ :: _, h => by simp at h
  | _ :: _, [], h => by simp at h
def oD : Option Str → PyData
  | some n => .str n
  | none => .none
theorem ad_oD (o : Option Str) : ∀ K S v, (dSO o).r K S v → Da K S v (oD o) := by
  cases o with
  | none => exact ad_non
  | some n => exact ad_str
theorem sl_oD (o : Option Str) : sl (oD o) = dSO o := by cases o <;> rfl
def oldsH (h : HS) (xs : List Str) : List (Option Str) := xs.map fun x => (lk h.stand x).join
def unset (st : List (Str × Option Str)) (xs : List Str) : List (Str × Option Str) := xs.foldl (fun s x => pt s x none) st
def lostStep (h : HS) (p : Str × Option Str) : HS := { h with stand := dr h.stand p.1, last := dr h.last p.1, log := h.log ++ [.tuple [.str "lost", .str p.1, oD p.2]] }
def movedStep (h : HS) (p : (Str × Option Str) × Str) : HS := { h with stand := pt h.stand p.1.1 (some p.2), log := h.log ++ [.tuple [.str "moved", .str p.1.1, oD p.1.2, .str p.2]] }
def heldL' (xs : List Sx) : List Int := xs.map fun x => x.2.2.2.2.2
def wtsL' (xs : List Sx) : List Int := xs.map fun x => x.2.2.1
def spotsA (live : List Sx) (extra : Int) (m : Nat) : List Nat := dealD (wtsL' live) (capsA ((heldL' live).sum + m) (wtsL' live) extra) m (heldL' live)
def goesA (live : List Sx) (extra : Int) (m : Nat) : List Str := (spotsA live extra m).map fun k => (live.getD k ("", "", 0, false, false, 0)).1
def moveH (h : HS) (xs : List Str) : HS :=
  let h1 : HS := { h with stand := unset h.stand xs }
  if liveH h1 = [] then (xs.zip (oldsH h xs)).foldl lostStep h1
  else ((xs.zip (oldsH h xs)).zip (goesA (liveH h1) h.extra xs.length)).foldl movedStep h1
theorem keys_pt {β : Type} {l : List (Str × β)} {x : Str} {v : β} (h : x ∈ l.map Prod.fst) : (pt l x v).map Prod.fst = l.map Prod.fst := by
  have ha : (l.any fun a => decide (a.1 = x)) = true := by
    obtain ⟨y, hy, e⟩ := List.mem_map.mp h
    exact List.any_eq_true.mpr ⟨y, hy, decide_eq_true e⟩
  unfold pt
  rw [if_pos ha, List.map_map]
  refine List.map_congr_left fun y _ => ?_
  show (if y.1 = x then (y.1, v) else y).1 = y.1
  split <;> rfl
theorem keys_unset : ∀ {xs : List Str} {st : List (Str × Option Str)}, (∀ x ∈ xs, x ∈ st.map Prod.fst) → (unset st xs).map Prod.fst = st.map Prod.fst
  | [], _, _ => rfl
  | x :: xs, st, h => by
    show (unset (pt st x none) xs).map Prod.fst = _
    have e := keys_pt (v := (none : Option Str)) (h x (List.mem_cons_self ..))
    rw [keys_unset (xs := xs) (st := pt st x none) fun y hy => by rw [e]; exact h y (List.mem_cons_of_mem _ hy), e]
theorem lk_some {β : Type} {l : List (Str × β)} {x : Str} (h : x ∈ l.map Prod.fst) : ∃ v, lk l x = some v := by
  cases e : lk l x with
  | some v => exact ⟨v, rfl⟩
  | none =>
    have h1 : (l.any fun a => decide (a.1 = x)) = true := by
      obtain ⟨y, hy, e⟩ := List.mem_map.mp h
      exact List.any_eq_true.mpr ⟨y, hy, decide_eq_true e⟩
    rw [any_lk, e] at h1
    cases h1
theorem HOk.st {a : HA} {h : HS} (ok : HOk a h) {st : List (Str × Option Str)} (hs : st.map Prod.fst = h.stand.map Prod.fst) : HOk a { h with stand := st } :=
  ⟨ok.len, ok.few, by have := congrArg List.length hs; rw [List.length_map, List.length_map] at this; show st.length ≤ 1000; rw [this]; exact ok.asks, ok.lasts, ok.logs, ok.size, ok.extra, ok.rows, ok.nd, by show (st.map Prod.fst).Nodup; rw [hs]; exact ok.snd, ok.lnd⟩
theorem keys_dr {β : Type} {l : List (Str × β)} {x y : Str} (h : y ∈ l.map Prod.fst) (hne : y ≠ x) : y ∈ (dr l x).map Prod.fst := by
  obtain ⟨z, hz, e⟩ := List.mem_map.mp h
  exact List.mem_map.mpr ⟨z, List.mem_filter.mpr ⟨hz, by simp [e, hne]⟩, e⟩
theorem live_ok {a : HA} {h : HS} (ok : HOk a h) : sxOk (liveH h) ∧ (liveH h).length ≤ 100 := by
  refine ⟨fun p hp => ?_, ?_⟩
  · obtain ⟨h1, _⟩ := List.mem_filter.mp hp
    obtain ⟨r, hr, rfl⟩ := List.mem_map.mp h1
    obtain ⟨a1, a2, a3, a4⟩ := ok.rows r hr
    exact ⟨a1, a2, a3, a4, Int.natCast_nonneg _⟩
  · have := List.length_filter_le liveA (serversH h)
    have e : (serversH h).length = h.rows.length := List.length_map ..
    have := ok.few
    unfold liveH
    omega
theorem servers_ok {a : HA} {h : HS} (ok : HOk a h) : sxOk (serversH h) ∧ (serversH h).length ≤ 100 := by
  refine ⟨fun p hp => ?_, ?_⟩
  · obtain ⟨r, hr, rfl⟩ := List.mem_map.mp hp
    obtain ⟨a1, a2, a3, a4⟩ := ok.rows r hr
    exact ⟨a1, a2, a3, a4, Int.natCast_nonneg _⟩
  · have e : (serversH h).length = h.rows.length := List.length_map ..
    have := ok.few
    omega

theorem lost_keys {y : Str} : ∀ {pre : List (Str × Option Str)} {h : HS}, y ∈ h.stand.map Prod.fst → y ∉ pre.map Prod.fst → y ∈ (pre.foldl lostStep h).stand.map Prod.fst
  | [], _, h1, _ => h1
  | p :: pre, h, h1, h2 => by
    rw [List.map_cons, List.mem_cons, not_or] at h2
    exact lost_keys (pre := pre) (h := lostStep h p) (keys_dr h1 h2.1) h2.2
theorem lost_log : ∀ {pre : List (Str × Option Str)} {h : HS}, (pre.foldl lostStep h).log.length = h.log.length + pre.length
  | [], _ => rfl
  | p :: pre, h => by
    show (pre.foldl lostStep (lostStep h p)).log.length = _
    rw [lost_log (pre := pre)]
    show (h.log ++ [_]).length + _ = _
    rw [List.length_append]
    simp
    omega
theorem moved_log : ∀ {pre : List ((Str × Option Str) × Str)} {h : HS}, (pre.foldl movedStep h).log.length = h.log.length + pre.length ∧ (pre.foldl movedStep h).stand.length ≤ h.stand.length + pre.length
  | [], _ => ⟨rfl, Nat.le_refl _⟩
  | p :: pre, h => by
    obtain ⟨a, b⟩ := moved_log (pre := pre) (h := movedStep h p)
    have e1 : (movedStep h p).log.length = h.log.length + 1 := by show (h.log ++ [_]).length = _; rw [List.length_append]; rfl
    have e2 : (movedStep h p).stand.length ≤ h.stand.length + 1 := pt_len _ _ _
    refine ⟨?_, ?_⟩
    · show (pre.foldl movedStep (movedStep h p)).log.length = _
      rw [a, e1]; simp; omega
    · show (pre.foldl movedStep (movedStep h p)).stand.length ≤ _
      simp; omega
theorem unset_app (st : List (Str × Option Str)) (xs : List Str) (x : Str) : unset st (xs ++ [x]) = pt (unset st xs) x none := by unfold unset; rw [List.foldl_append]; rfl
theorem at_getD {α : Type} {l : List α} {n : Nat} {d : α} (h : n < l.length) : l[n]? = some (l.getD n d) := by rw [List.getElem?_eq_getElem h, List.getD_eq_getElem?_getD, List.getElem?_eq_getElem h]; rfl
theorem zip_data (xs : List Str) (os : List (Option Str)) : ((xs.map PyData.str).zip (os.map oD)).map (fun x => stup [sl x.1, sl x.2]) = (xs.zip os).map fun p => stup [dS p.1, dSO p.2] := by
  induction xs generalizing os with
  | nil => rfl
  | cons x xs ih =>
    cases os with
    | nil => rfl
    | cons o os =>
      show stup [sl (.str x), sl (oD o)] :: _ = stup [dS x, dSO o] :: _
      rw [sl_oD]
      exact congrArg _ (ih os)
section
variable {ι : Type} {X : ι → Cx} {K : PySem.W.Frag} {E : Ent} {B : Hp} {Γ : Slots} {R : List Res} {rest : List Stmt} {D : Ends} {pos : Pos}
theorem blk_ret0R {ν : Type} {Rn : ν → List Res} {res : ν → Sl} {Q : VK} (hq : RetOk K E Rn res Q) (n : ν) (hR : R = Rn n) (hres : res n = dN) (hD : D.rt = Q) : Blk X K E B Γ R (.Return none pos :: rest) D :=
  blk_ret0 fun S σ H q => by rw [hD]; exact hq n Γ S σ H .non (hR ▸ q) (by rw [hres]; rfl)
end
end SL

/-! a hall's deeds, that move asks -/
namespace SL
open PySem PySem.Spec PyProof.Rows L2
def someIn (o : Option Str) (ns : List Str) : Bool := match o with
  | some n => decide (n ∈ ns)
  | none => false
theorem inV_SO (o : Option Str) (ns : List Str) : inV (oS o) (ns.map V.str) = someIn o ns := by
  cases o with
  | some n => exact inV_strs ns
  | none =>
    unfold inV
    rw [List.any_map]
    exact List.any_eq_false.mpr fun y _ => by show ¬ (eqV (.str y) .non = true); exact Bool.false_ne_true
theorem flat_SO (o : Option Str) : flatV (oS o) = true := by cases o <;> rfl
section
variable {ι : Type} {X : ι → Cx} {K : PySem.W.Frag} {E : Ent} {B : Hp} {Γ Γ' : Slots} {R R' R1 : List Res} {a b e : Expr} {rest : List Stmt} {D : Ends} {pos : Pos} {C : Addr} {s s1 s2 : Sl} {P : Program} {w : World} {mg : Str → Option Value} {base : Heap} {A : Around} {N : List Str}
theorem br_inSO (F : Fam X P w K mg base A N) {u : Option Str} {ds : List PyData} (h : LV K R s2 ds) (ha : ds.all isS = true) : BinR X K E (compareOp .In) R (dSO u) s2 (dB (someIn u (ds.map dstr))) :=
  ⟨rIn K false, fun n => by rw [← F.fK n]; exact op_in_seq, fun Γ S σ H x y Q q r1 r2 k => by
    cases (show x = oS u from r1)
    obtain ⟨p, vs, rfl, h1, h2⟩ := h E Γ S σ H y q r2
    rw [da_strs ha h2] at h1
    exact ⟨p, _, rfl, .inl (SqL.of h1), flat_SO u, List.all_eq_true.mpr fun z hz => by obtain ⟨t, _, rfl⟩ := List.mem_map.mp hz; rfl, k _ S H (Same.refl _) q (by rw [← inV_SO]; rfl)⟩⟩
theorem br_ninSO (F : Fam X P w K mg base A N) {u : Option Str} {ds : List PyData} (h : LV K R s2 ds) (ha : ds.all isS = true) : BinR X K E (compareOp .NotIn) R (dSO u) s2 (dB (!someIn u (ds.map dstr))) :=
  ⟨rIn K true, fun n => by rw [← F.fK n]; exact op_notIn_seq, fun Γ S σ H x y Q q r1 r2 k => by
    cases (show x = oS u from r1)
    obtain ⟨p, vs, rfl, h1, h2⟩ := h E Γ S σ H y q r2
    rw [da_strs ha h2] at h1
    exact ⟨p, _, rfl, .inl (SqL.of h1), flat_SO u, List.all_eq_true.mpr fun z hz => by obtain ⟨t, _, rfl⟩ := List.mem_map.mp hz; rfl, k _ S H (Same.refl _) q (by rw [← inV_SO]; rfl)⟩⟩
end
def atH (h : HS) (ns : List Str) : List Str := (h.stand.filter fun x => someIn x.2 ns).map Prod.fst
def allMoveH (h : HS) (ns : List Str) : HS := moveH h (atH h ns)
def goneL (h : HS) (n : Str) : List Str := (h.last.filter fun x => decide (x.2 = n)).map Prod.fst
def outH0 (h : HS) (i : Nat) (r : RowS) : HS := { h with rows := h.rows.eraseIdx i, log := h.log ++ [.tuple [.str "out", .str r.name]], last := (goneL h r.name).foldl dr h.last }
def outH (h : HS) (i : Nat) (r : RowS) : HS := allMoveH (outH0 h i r) [r.name]
def ledH (h : HS) (asker zone : Str) : Option Str := if someIn (lk h.last asker) ((freeA (serversH h) h.extra).map (·.1)) then lk h.last asker else chosenA (serversH h) asker zone h.size h.extra
def askH (h : HS) (asker zone : Str) : HS := { h with stand := pt h.stand asker (ledH h asker zone), log := h.log ++ [.tuple [.str "open", .str asker, oD (ledH h asker zone)]] }
def endH (h : HS) (asker n : Str) : HS := { h with stand := dr h.stand asker, last := pt h.last asker n, log := h.log ++ [.tuple [.str "end", .str asker, .str n]] }
def looked2 (w : Bool) (row : Int) (good : Bool) (rise fall : Int) : Bool × Int :=
  if good = w then (w, 0) else if (if w then fall else rise) = row + 1 then (!w, 0) else (w, row + 1)
def lookH (h : HS) (i : Nat) (r : RowS) (good : Bool) : HS :=
  let n := looked2 r.well r.cnt good h.rise h.fall
  let h1 : HS := { h with rows := h.rows.set i { r with well := n.1, cnt := n.2 } }
  if n.1 = r.well then h1
  else
    let h2 : HS := { h1 with log := h1.log ++ [.tuple [.str (wdA n.1), .str r.name]] }
    if r.well then allMoveH h2 [r.name] else h2
theorem at_nd {a : HA} {h : HS} (ok : HOk a h) (ns : List Str) : (atH h ns).Nodup ∧ (∀ x ∈ atH h ns, x ∈ h.stand.map Prod.fst) ∧ (atH h ns).length ≤ h.stand.length := by
  refine ⟨ok.snd.sublist ((List.filter_sublist).map Prod.fst), fun x hx => ?_, ?_⟩
  · obtain ⟨y, hy, e⟩ := List.mem_map.mp hx
    exact List.mem_map.mpr ⟨y, (List.mem_filter.mp hy).1, e⟩
  · unfold atH
    rw [List.length_map]
    exact List.length_filter_le _ _
theorem dr_len {β : Type} (l : List (Str × β)) (x : Str) : (dr l x).length ≤ l.length := List.length_filter_le _ _
theorem drs_sub {β : Type} : ∀ (xs : List Str) (l : List (Str × β)), (xs.foldl dr l).Sublist l
  | [], l => List.Sublist.refl _
  | x :: xs, l => (drs_sub xs (dr l x)).trans List.filter_sublist
theorem out_ok {a : HA} {h : HS} (ok : HOk a h) {n : Nat} {r : RowS} (hl : h.log.length < 100000) : HOk { a with qs := a.qs.eraseIdx n } (outH0 h n r) := by
  have hs := List.eraseIdx_sublist h.rows n
  refine ⟨?_, ?_, ok.asks, ?_, ?_, ok.size, ok.extra, fun x hx => ok.rows x (hs.subset hx), ?_, ok.snd, ?_⟩
  · show (a.qs.eraseIdx n).length = (h.rows.eraseIdx n).length
    rw [List.length_eraseIdx, List.length_eraseIdx, ok.len]
  · exact Nat.le_trans hs.length_le ok.few
  · exact Nat.le_trans (drs_sub _ _).length_le ok.lasts
  · show (h.log ++ [_]).length ≤ 100000
    rw [List.length_append]
    simp
    omega
  · exact ok.nd.sublist (hs.map _)
  · exact ok.lnd.sublist ((drs_sub _ _).map _)
theorem drs_keys {β : Type} {y : Str} : ∀ {pre : List Str} {l : List (Str × β)}, y ∈ l.map Prod.fst → y ∉ pre → y ∈ (pre.foldl dr l).map Prod.fst
  | [], _, h, _ => h
  | x :: pre, l, h, hn => by
    rw [List.mem_cons, not_or] at hn
    exact drs_keys (pre := pre) (l := dr l x) (keys_dr h hn.1) hn.2
end SL

/-! lists of values by comprehension; rows that are changed -/
namespace SL
open PySem PySem.Spec PyProof.Rows L2
theorem HOk.set {a : HA} {h : HS} (ok : HOk a h) {n : Nat} {r r' : RowS} (hn : h.rows[n]? = some r) (e : r'.name = r.name) (hz : r'.zone = r.zone) (hw : 1 ≤ r'.wt ∧ r'.wt ≤ 20) : HOk a { h with rows := h.rows.set n r' } := by
  have em : (h.rows.set n r').map RowS.name = h.rows.map RowS.name := by
    rw [List.map_set]
    apply List.ext_getElem?
    intro j
    by_cases k : n = j
    · subst k
      have hl := (List.getElem?_eq_some_iff.mp hn).1
      rw [List.getElem?_set_self (by rw [List.length_map]; exact hl), List.getElem?_map, hn, e]
      rfl
    · rw [List.getElem?_set_ne k]
  refine ⟨by show a.qs.length = (h.rows.set n r').length; rw [List.length_set]; exact ok.len, by show (h.rows.set n r').length ≤ 100; rw [List.length_set]; exact ok.few, ok.asks, ok.lasts, ok.logs, ok.size, ok.extra, fun x hx => ?_, by show ((h.rows.set n r').map RowS.name).Nodup; rw [em]; exact ok.nd, ok.snd, ok.lnd⟩
  rcases List.mem_or_eq_of_mem_set hx with z | z
  · exact ok.rows x z
  · obtain ⟨a1, a2, _⟩ := ok.rows r (List.mem_of_getElem? hn)
    rw [z, e, hz]
    exact ⟨a1, a2, hw⟩
theorem HOk.log {a : HA} {h : HS} (ok : HOk a h) {l : List PyData} (hl : l.length ≤ 100000) : HOk a { h with log := l } := ⟨ok.len, ok.few, ok.asks, ok.lasts, hl, ok.size, ok.extra, ok.rows, ok.nd, ok.snd, ok.lnd⟩
theorem wd_inj {x y : Bool} : wdA x = wdA y ↔ x = y := by
  constructor
  · intro h
    cases x <;> cases y
    · rfl
    · exact absurd h (by decide +kernel)
    · exact absurd h (by decide +kernel)
    · rfl
  · intro h; rw [h]
section
variable {ι : Type} {X : ι → Cx} {K : PySem.W.Frag} {E : Ent} {B : Hp} {Γ Γ' : Slots} {R R' R1 : List Res} {a b e : Expr} {rest : List Stmt} {D : Ends} {pos : Pos} {C : Addr} {s s1 s2 : Sl} {P : Program} {w : World} {mg : Str → Option Value} {base : Heap} {A : Around} {N : List Str}
theorem lc_jS {α : Type} {tg iter elt : Expr} {ifs : List Expr} {scope : Scope} {own : List (Str × Nat)} {C : List Res → Prop} {us : List Nat} {xs : List α} {it : α → Sl} {up : α → Slots → Slots} {k : α → Bool} {se : α → Sl}
    (F : Fam X P w K mg base A N) (hi : ItJ X K E Γ R tg iter R1 (xs.map it) C) (ok : ∀ i, BlkOk (X i).N (X i).env.scope scope own)
    (htg : Fam (BX X scope) P w K mg base A N → TgA (BX X scope) K E tg it up us) (hu : ∀ j ∈ us, j ∈ own.map (·.2))
    (hC : ∀ D acc, C (R1 ++ [rLs D acc])) (ht : Fam (BX X scope) P w K mg base A N → ∀ D acc, ∀ x ∈ xs, TsJ (BX X scope) K E (up x (wipeG Γ (own.map (·.2)))) (R1 ++ [rLs D acc]) ifs (k x))
    (he : Fam (BX X scope) P w K mg base A N → ∀ D acc, ∀ x ∈ xs, k x = true → EvJ (BX X scope) K E (up x (wipeG Γ (own.map (·.2)))) (R1 ++ [rLs D acc]) elt (R1 ++ [rLs D acc]) (se x))
    (hz : xs.length ≤ 1000000) (hs : ∀ i x, foldedSetIterable iter (X i).env x = pure x := by exact fun _ _ => rfl) (hcm : ∀ i, (X i).calm = true := by exact fun _ => rfl) :
    LcN X K E Γ R (.ListComp elt [⟨tg, iter, ifs, 0⟩] scope pos) (fun D : Addr => R1 ++ [rLs D ((xs.filter k).map se)]) (fun D => sv (.ref D)) := by
  have htg := htg (fam_blk F)
  have ht := ht (fam_blk F)
  have he := he (fam_blk F)
  obtain ⟨wi, w1, w2⟩ := hi
  obtain ⟨g, t1, t2⟩ := htg
  have ht' := fun (n : { q : Addr × List Sl × α // q.2.2 ∈ xs }) => Classical.choose_spec (ht n.1.1 n.1.2.1 n.1.2.2 n.2)
  have he' := fun (n : { q : Addr × List Sl × α // q.2.2 ∈ xs ∧ k q.2.2 = true }) => Classical.choose_spec (he n.1.1 n.1.2.1 n.1.2.2 n.2.1 n.2.2)
  refine ⟨tLc wi g _ _ (own.map (·.2)), fun i => pe_lc (hcm i) (by rw [F.fN i]; exact F.nd) (w1 i) (ok i) (fun s H C cl fp => t1 ⟨i, s, H, C, cl, fp⟩) (fun s H C cl fp => pts_any fun n => (ht' n).1 ⟨i, s, H, C, cl, fp⟩) (fun s H C cl fp => pe_any fun n => (he' n).1 ⟨i, s, H, C, cl, fp⟩) (hs i), fun i k y py spos hy hyl hsw => ps_setLc (hcm i) (by rw [F.fN i]; exact F.nd) hy hyl hsw (w1 i) (ok i) (fun s H C cl fp => t1 ⟨i, s, H, C, cl, fp⟩) (fun s H C cl fp => pts_any fun n => (ht' n).1 ⟨i, s, H, C, cl, fp⟩) (fun s H C cl fp => pe_any fun n => (he' n).1 ⟨i, s, H, C, cl, fp⟩) (hs i), fun S σ H Q q kk => ?_⟩
  refine w2 S σ H _ q fun J S1 H1 e1 q1 hJ D hD => ?_
  refine ⟨fun n m H => m = xs.length - n ∧ n ≤ xs.length ∧ ∃ S', Same S1 S' ∧ SR K E Γ (R1 ++ [rLs D (((xs.take n).filter k).map se)]) S' σ H, ⟨xs.length, by simp, Nat.zero_le _, S1, Same.refl _, q1.mine hD ⟨[], rfl, .nil⟩⟩, ?_⟩
  rintro n m H2 ⟨rfl, hn, S2, e2, q2⟩
  obtain ⟨g1, g2⟩ := hJ n _ _ S2 σ H2 e2 q2 (hC _ _)
  by_cases hlt : n < xs.length
  · have hx : xs[n]? = some xs[n] := List.getElem?_eq_getElem hlt
    have hm : xs[n] ∈ xs := List.getElem_mem hlt
    have htake : xs.take (n + 1) = xs.take n ++ [xs[n]] := by rw [List.take_succ, hx]; rfl
    obtain ⟨go, hy⟩ := g1 (it xs[n]) (by rw [List.getElem?_map, hx]; rfl)
    refine .inr ⟨go, fun H' => ∃ S', Same S1 S' ∧ SR K E Γ (R1 ++ [rLs D (((xs.take (n + 1)).filter k).map se)]) S' σ H', fun H' h' => ⟨xs.length - (n + 1), by omega, rfl, hlt, h'⟩, fun x H' hx' => ?_⟩
    obtain ⟨S3, e3, q3, r3⟩ := hy x H' hx'
    apply t2 xs[n] _ _ S3 (wipe σ (own.map (·.2))) H' x _ (q3.reslot (wipe_slots _ q3.slots)) r3
    intro σ4 q4 o4 l4
    refine ⟨wipe_eq o4 l4 hu, ?_⟩
    refine ⟨⟨(D, ((xs.take n).filter k).map se, xs[n]), hm⟩, (ht' ⟨(D, ((xs.take n).filter k).map se, xs[n]), hm⟩).2 S3 σ4 H' _ q4 fun S5 H5 e5 q5 => ?_⟩
    have q5' : SR K E Γ (R1 ++ [rLs D (((xs.take n).filter k).map se)]) S5 σ H5 := q5.reslot (slots_mono e5 q3.slots)
    cases hk : k xs[n] with
    | false =>
      refine iteF ⟨S5, (e2.trans e3).trans e5, ?_⟩
      rw [htake, List.filter_append, List.filter_cons, if_neg (by rw [hk]; exact Bool.false_ne_true), List.filter_nil, List.append_nil]
      exact q5'
    | true =>
      refine iteT ⟨⟨(D, ((xs.take n).filter k).map se, xs[n]), hm, hk⟩, (he' ⟨(D, ((xs.take n).filter k).map se, xs[n]), hm, hk⟩).2 S5 σ4 H5 _ q5 fun y S6 H6 e6 q6 r6 => ?_⟩
      have q6' : SR K E Γ (R1 ++ [rLs D (((xs.take n).filter k).map se)]) S6 σ H6 := q6.reslot (slots_mono e6 q5'.slots)
      obtain ⟨O, ⟨acc, eO, hacc⟩, sO⟩ := q6'.res R1.length get_last
      subst eO
      refine ⟨acc, sO D _ hOne_same, ?_, S6, ((e2.trans e3).trans e5).trans e6, ?_⟩
      · rw [← hacc.len, List.length_map]
        have h1 := List.length_filter_le k (xs.take n)
        rw [List.length_take] at h1
        have : (sizeLine : Nat) = 16777216 := sizeLine_eq
        omega
      · rw [htake, List.filter_append, List.filter_cons, if_pos (by rw [hk]), List.filter_nil, List.map_append]
        have := q6'.put R1.length get_last (fun O ⟨vs, e, _⟩ => ⟨_, e⟩) (ρ' := rLs D (((xs.take n).filter k).map se ++ [se xs[n]])) ⟨_, rfl, hacc.app (.cons r6 .nil)⟩
        rw [set_last] at this
        exact this
  · have e : n = xs.length := by omega
    subst e
    rw [List.take_length] at q2
    exact .inl ⟨g2 (by rw [List.length_map]; exact Nat.le_refl _), kk D _ S2 H2 (e1.trans e2) q2 rfl⟩
/-- a list of some of the rows, as data -/
theorem dv_some (m k : Nat) {p l : Addr} {qr sub : List (Addr × List PyData)} (hm : R[m]? = some (rLs p (sub.map fun x => sv (.ref x.1)))) (hk : R[k]? = some (rRw l qr)) (hs : ∀ x ∈ sub, x ∈ qr) : DV K R (sv (.ref p)) (.list (sub.map fun x => .list x.2)) := fun E Γ S σ H v q r => by
  cases (show v = .ref p from r)
  obtain ⟨O, ⟨vs, e, h1⟩, h2⟩ := q.res m hm
  subst e
  obtain ⟨O2, h3, h4⟩ := q.res k hk
  have hv : vs = sub.map fun x => V.ref x.1 := by
    have : ∀ {sub : List (Addr × List PyData)} {vs : List V}, All2 (fun (s : Sl) v => s.r K S v) (sub.map fun x => sv (.ref x.1)) vs → vs = sub.map fun x => V.ref x.1 := by
      intro sub
      induction sub with
      | nil => intro vs h; cases h; rfl
      | cons x sub ih =>
        intro vs h
        cases h with
        | cons g t =>
          rw [ih t]
          exact congrArg (· :: _) g
    exact this h1
  have hd : ∀ {sub : List (Addr × List PyData)}, (∀ x ∈ sub, x ∈ qr) → DpAll K H (sub.map fun x => V.ref x.1) (sub.map fun x => .list x.2) ∧ PyData.plainAll (sub.map fun x => PyData.list x.2) = true := by
    intro sub
    induction sub with
    | nil => intro _; exact ⟨.nil, rfl⟩
    | cons x sub ih =>
      intro hx
      obtain ⟨g1, g2⟩ := ih fun y hy => hx y (List.mem_cons_of_mem _ hy)
      obtain ⟨us, u1, u2⟩ := h3.rows x (hx x (List.mem_cons_self ..))
      refine ⟨.cons (.lst (SqL.of (h4 _ _ u1)) (daAll_dp (daAll_same q.sub u2))) g1, ?_⟩
      rw [List.map_cons, PyData.plainAll, PyData.plain, daAll_plain u2, g2]
      rfl
  obtain ⟨d1, d2⟩ := hd hs
  rw [← hv] at d1
  exact ⟨.lst (SqL.of (h2 p _ hOne_same)) d1, by rw [PyData.plain]; exact d2⟩
end
end SL

/-! zones that fall -/
namespace SL
open PySem PySem.Spec PyProof.Rows L2
def illR (z : Str) (r : RowS) : RowS := if r.zone = z ∧ r.well = true then { r with well := false, cnt := 0 } else r
def illD (n : Str) : PyData := .tuple [.str "ill", .str n]
def fallenL (rows : List RowS) (z : Str) : List Str := (rows.filter fun r => decide (r.zone = z ∧ r.well = true)).map RowS.name
def fallsH0 (h : HS) (z : Str) : HS := { h with rows := h.rows.map (illR z), log := h.log ++ (fallenL h.rows z).map illD }
def fallsH (h : HS) (z : Str) : HS := allMoveH (fallsH0 h z) (fallenL h.rows z)
theorem ill_name {z : Str} {r : RowS} : (illR z r).name = r.name := by unfold illR; split <;> rfl
theorem ill_zone {z : Str} {r : RowS} : (illR z r).zone = r.zone ∧ (illR z r).wt = r.wt := by unfold illR; split <;> exact ⟨rfl, rfl⟩
/-- the rows, where those of some names have fallen -/
def rowsP (rows : List RowS) (z : Str) (ns : List Str) : List RowS := rows.map fun r => if r.name ∈ ns then illR z r else r
theorem rowsP_len {rows : List RowS} {z : Str} {ns : List Str} : (rowsP rows z ns).length = rows.length := List.length_map ..
theorem rowsP_at {rows : List RowS} {z : Str} {ns : List Str} {n : Nat} {r : RowS} (hn : rows[n]? = some r) (h : r.name ∉ ns) : (rowsP rows z ns)[n]? = some r := by
  unfold rowsP
  rw [List.getElem?_map, hn]
  show some (if r.name ∈ ns then illR z r else r) = _
  rw [if_neg h]
theorem rowsP_set {rows : List RowS} {z : Str} {ns : List Str} {n : Nat} {r : RowS} (nd : (rows.map RowS.name).Nodup) (hn : rows[n]? = some r) : rowsP rows z (ns ++ [r.name]) = (rowsP rows z ns).set n (illR z r) := by
  apply List.ext_getElem?
  intro j
  have hl := (List.getElem?_eq_some_iff.mp hn).1
  by_cases e : n = j
  · subst e
    rw [List.getElem?_set_self (by rw [rowsP_len]; exact hl)]
    unfold rowsP
    rw [List.getElem?_map, hn]
    show some (if r.name ∈ ns ++ [r.name] then illR z r else r) = _
    rw [if_pos (by simp)]
  · rw [List.getElem?_set_ne e]
    unfold rowsP
    rw [List.getElem?_map, List.getElem?_map]
    cases ej : rows[j]? with
    | none => rfl
    | some r' =>
      have hne : r'.name ≠ r.name := fun k => e (nd_at nd hn ej k.symm)
      show some (if r'.name ∈ ns ++ [r.name] then illR z r' else r') = some (if r'.name ∈ ns then illR z r' else r')
      have : r'.name ∈ ns ++ [r.name] ↔ r'.name ∈ ns := by simp [hne]
      simp only [this]
theorem rowsP_nil {rows : List RowS} {z : Str} : rowsP rows z [] = rows := by
  unfold rowsP
  have : (fun r : RowS => if r.name ∈ ([] : List Str) then illR z r else r) = fun r => r := by funext r; simp
  rw [this]
  exact List.map_id' rows
theorem rowsP_all {rows : List RowS} {z : Str} : rowsP rows z ((rows.filter fun r => decide (r.zone = z)).map RowS.name) = rows.map (illR z) := by
  unfold rowsP
  refine List.map_congr_left fun r hr => ?_
  by_cases h : r.name ∈ (rows.filter fun r => decide (r.zone = z)).map RowS.name
  · rw [if_pos h]
  · rw [if_neg h]
    have : ¬ r.zone = z := fun e => h (List.mem_map.mpr ⟨r, List.mem_filter.mpr ⟨hr, by simp [e]⟩, rfl⟩)
    unfold illR
    rw [if_neg fun k => this k.1]
theorem falls_ok {a : HA} {h : HS} (ok : HOk a h) {z : Str} (hl : h.log.length + h.rows.length ≤ 100000) : HOk a (fallsH0 h z) := by
  have em : (h.rows.map (illR z)).map RowS.name = h.rows.map RowS.name := by rw [List.map_map]; exact List.map_congr_left fun r _ => ill_name
  have hfl : (fallenL h.rows z).length ≤ h.rows.length := by unfold fallenL; rw [List.length_map]; exact List.length_filter_le _ _
  refine ⟨by show a.qs.length = (h.rows.map (illR z)).length; rw [List.length_map]; exact ok.len, by show (h.rows.map (illR z)).length ≤ 100; rw [List.length_map]; exact ok.few, ok.asks, ok.lasts, by show (h.log ++ _).length ≤ 100000; rw [List.length_append, List.length_map]; omega, ok.size, ok.extra, fun x hx => ?_, by show ((h.rows.map (illR z)).map RowS.name).Nodup; rw [em]; exact ok.nd, ok.snd, ok.lnd⟩
  obtain ⟨r, hr, rfl⟩ := List.mem_map.mp hx
  rw [ill_name, ill_zone.1, ill_zone.2]
  exact ok.rows r hr
theorem zip_rowD (qs : List Addr) (rows : List RowS) : qs.zip (rows.map rowD) = (qs.zip rows).map fun x => (x.1, rowD x.2) := by
  induction qs generalizing rows with
  | nil => rfl
  | cons q qs ih =>
    cases rows with
    | nil => rfl
    | cons r rows => exact congrArg _ (ih rows)
/-! evenings -/
def thereH (h : HS) (n : Str) : List Str := (h.stand.filter fun x => decide (x.2 = some n)).map Prod.fst
end SL

/-! evenings -/
namespace SL
open PySem PySem.Spec PyProof.Rows L2
def aboveL (xs ys : List Int) : List Int := (xs.zip ys).map fun x => max 0 (x.1 - x.2)
def overL (L : List Sx) (extra : Int) : List Int := aboveL (heldL' L) (capsA (heldL' L).sum (wtsL' L) extra)
def lastL (l : List Str) (m : Int) : List Str := cutD l (some ((l.length : Int) - m)) none
def goingP (h : HS) (ps : List (Sx × Int)) : List Str := ps.flatMap fun p => lastL (thereH h p.1.1) p.2
def goingH (h : HS) : List Str := goingP h ((liveH h).zip (overL (liveH h) h.extra))
def goersH (h : HS) : List Str := (h.stand.filter fun x => decide (x.1 ∈ goingH h)).map Prod.fst
def eveningH (h : HS) : HS := if liveH h = [] then h else moveH h (goersH h)
def eveningN (h : HS) : Nat := if liveH h = [] then 0 else (goersH h).length
theorem cutD_le {α : Type} (xs : List α) (lo hi : Option Int) : (cutD xs lo hi).length ≤ xs.length := by
  unfold cutD
  rw [List.length_take, List.length_drop]
  omega
theorem there_len (h : HS) (n : Str) : (thereH h n).length ≤ h.stand.length := by unfold thereH; rw [List.length_map]; exact List.length_filter_le _ _
theorem going_len (h : HS) : ∀ ps : List (Sx × Int), (goingP h ps).length ≤ ps.length * h.stand.length
  | [] => by simp [goingP]
  | p :: ps => by
    have ih := going_len h ps
    have h1 : (lastL (thereH h p.1.1) p.2).length ≤ h.stand.length := Nat.le_trans (cutD_le _ _ _) (there_len h _)
    show (lastL (thereH h p.1.1) p.2 ++ goingP h ps).length ≤ (ps.length + 1) * h.stand.length
    rw [List.length_append, Nat.add_mul, Nat.one_mul]
    omega
theorem going_app (h : HS) (ps : List (Sx × Int)) (p : Sx × Int) : goingP h (ps ++ [p]) = goingP h ps ++ lastL (thereH h p.1.1) p.2 := by unfold goingP; rw [List.flatMap_append]; simp
theorem zip_data2 (L : List Sx) (os : List Int) : ((L.map sxD).zip (os.map PyData.int)).map (fun x => stup [sl x.1, sl x.2]) = (L.zip os).map fun p => stup [sd (sxD p.1), dI p.2] := by
  induction L generalizing os with
  | nil => rfl
  | cons x L ih =>
    cases os with
    | nil => rfl
    | cons o os => exact congrArg _ (ih os)
theorem goers_nd {a : HA} {h : HS} (ok : HOk a h) : (goersH h).Nodup ∧ (∀ x ∈ goersH h, x ∈ h.stand.map Prod.fst) ∧ (goersH h).length ≤ h.stand.length := by
  refine ⟨ok.snd.sublist ((List.filter_sublist).map Prod.fst), fun x hx => ?_, ?_⟩
  · obtain ⟨y, hy, e⟩ := List.mem_map.mp hx
    exact List.mem_map.mpr ⟨y, (List.mem_filter.mp hy).1, e⟩
  · unfold goersH
    rw [List.length_map]
    exact List.length_filter_le _ _
end SL

/-! making a hall -/
namespace SL
open PySem PySem.Spec PyProof.Rows L2
theorem ptF_new {f : Str} {s : Sl} : ∀ {fs : List (Str × Sl)}, f ∉ fs.map Prod.fst → ptF f s fs = fs ++ [(f, s)]
  | [], _ => rfl
  | (g, t) :: r, h => by
    rw [List.map_cons, List.mem_cons, not_or] at h
    unfold ptF
    rw [if_neg fun z => h.1 z.symm, ptF_new h.2]
    rfl
section
variable {ι : Type} {X : ι → Cx} {K : PySem.W.Frag} {E : Ent} {B : Hp} {Γ Γ' : Slots} {R R' R1 : List Res} {a b e o : Expr} {es : List Expr} {rest : List Stmt} {D : Ends} {pos p' : Pos} {C : Addr} {s s1 s2 : Sl} {ss : List Sl} {P : Program} {w : World} {mg : Str → Option Value} {base : Heap} {A : Around} {N ps : List Str} {f x : Str}
theorem blk_fldPutN {ν : Type} {Rn : ν → List Res} {sn : ν → Sl} (F : Fam X P w K mg base A N) (k : Nat) {p : Addr} {fs : List (Str × Sl)} {p2 : Pos} {value : Expr} (hv : EvN X K E Γ R value Rn sn) (ho : ∀ n, EvJ X K E Γ (Rn n) o (Rn n) (sv (.ref p))) (hk : ∀ n, (Rn n)[k]? = some (rI p C fs)) (c : Cls K C) (na : NoAttr K C f) (hl : fs.length < 1000)
    (hr : ∀ n, Blk X K E B Γ ((Rn n).set k (rI p C (ptF f (sn n) fs))) rest D) (hs : ∀ i, swapsWith value (some (.Attribute o f p2)) pos.line (X i).env = pure false := by exact fun _ => rfl) : Blk X K E B Γ R (.Assign [.Attribute o f p2] value pos :: rest) D := by
  obtain ⟨tv, v1, v2⟩ := hv
  have ho' := fun n => Classical.choose_spec (ho n)
  have hr' := fun n => Classical.choose_spec (hr n)
  refine ⟨tSeq (sFld K (fun σ H Q => ∃ n, Classical.choose (ho n) σ H Q) tv f) _, fun i => pss_cons (by have h := ps_fld (pe_any fun n => (ho' n).1 i) (v1 i) (hs i); rw [F.fK i] at h; exact h) (pss_any fun n => (hr' n).1 i), fun S σ H b q => ?_⟩
  refine v2 S σ H _ q fun n v S1 H1 e1 q1 r1 => ⟨n, (ho' n).2 S1 σ H1 _ q1 fun vo S2 H2 e2 q2 r2 => ?_⟩
  cases (show vo = .ref p from r2)
  obtain ⟨O, ⟨dx, fvs, e, g⟩, h2⟩ := q2.res k (hk n)
  subst e
  refine ⟨p, C, dx, fvs, rfl, h2 p _ hOne_same, c, na, by rw [← All2.len g]; exact hl, n, (hr' n).2 S2 σ _ (b.trans (e1.trans e2)) (q2.put k (hk n) (fun O ⟨_, _, e, _⟩ => ⟨_, e⟩) ⟨dx, _, rfl, frs_put ((sn n).mono e2 r1) g⟩)⟩
structure MkCal (P : Program) (w : World) (K : PySem.W.Frag) (mg : Str → Option Value) (base : Heap) (A : Around) (C : Addr) (x : Str) (ps : List Str) (sp : Sp) : Prop where
  ex : ∃ (k : Nat) (fa : Addr) (fd : FuncData), FnOk P w K mg base CX0 k fa fd ps sp ∧ Room (k + 1) A ∧ Mk K C fa ∧ mg x = some (.ref C) ∧ Binds K fd ps []
theorem Mak.cal {k n : Nat} {sp : Sp} (d : Mak P w K mg base C x ps k sp) (hr : Room n A) (hk : k + 1 ≤ n := by decide) : MkCal P w K mg base A C x ps sp := let ⟨fa, fd, h1, h2, h3, h4⟩ := d.ex; ⟨k, fa, fd, h1, hr.mono hk, h2, h3, h4⟩
/-- C(e, ..): a new instance -/
theorem ev_make {α : Type} {ν : α × Addr → Type} {pre : α × Addr → Prop} {as : α × Addr → List Sl} {Rs : α × Addr → List Res} {Rn : ∀ i, ν i → List Res} (F : Fam X P w K mg base A N) (Cl : MkCal P w K mg base A C x ps (spJ K pre as Rs Rn (fun _ _ => sv .non))) (i : α) (ha : ArJ X K E Γ R (e :: es) R1 ss) (has : ∀ p, as (i, p) = sv (.ref p) :: ss) (hRs : ∀ p, Rs (i, p) = [rI p C []]) (hpre : ∀ p, pre (i, p))
    (hg : ∀ i, Gl (X i) x := by exact fun _ => rfl) (he : ∀ i, starEach (e :: es) (X i).env = (false, eval e (X i).env) :: starEach es (X i).env := by exact fun _ => rfl) (hpl : ∀ i, (backTo pos (starEach es (X i).env)).any (·.1) = false := by exact fun _ => rfl) (hdb : (x == ("__debug__" : Str)) = false := by decide) :
    EvN X K E Γ R (.Call (.Name x p') (e :: es) [] pos) (fun n : (p : Addr) × ν (i, p) => R1 ++ Rn (i, n.1) n.2) (fun n => sv (.ref n.1)) := by
  obtain ⟨k, fa, fd, hF, hr, hM, hm, hb⟩ := Cl.ex
  obtain ⟨t, a1, a2⟩ := ha
  refine ⟨tMake C (spJ K pre as Rs Rn (fun _ _ => sv .non)) [] E0 t, fun j => ?_, fun S σ H Q q kk => a2 S σ H _ q fun vs S1 H1 e1 q1 r1 => fun p dx hp hdx hne => ?_⟩
  · refine pe_make (CX := CX0) (k := k) (f := fa) (fd := fd) (ps := ps) (ds := []) (by rw [F.fK j]; exact hM) ?_ (by rw [F.fA j]; exact hr) (hg j) (by rw [F.fmg j]; exact hm) (by rw [F.fK j]; exact hb) .nil pass0 (a1 j) hdb (he j) (hpl j)
    rw [F.fP j, F.fw j, F.fK j, F.fmg j, F.fbase j]
    exact hF
  · rw [List.append_nil]
    have q2 := (q1.junk (o := .own p) hdx).mine (ρ := rI p C []) (o := .ins C dx []) (by rw [upd_ne (fun z => hne z.symm)]; exact hp) ⟨dx, [], rfl, .nil⟩
    have q3 : SR K E Γ (R1 ++ Rs (i, p) ++ []) S1 σ (upd (upd H1 dx (.own p)) p (.ins C dx [])) := by rw [hRs, List.append_nil]; exact q2
    obtain ⟨Os, hOs, hgive⟩ := q3.give
    refine ⟨(i, p), S1, Os, hpre p, q3.sub, by rw [has]; exact .cons rfl r1, hOs, fun n v S' H' Os' hfr hsub hext hnew hown hO hres => ⟨hres, ?_⟩⟩
    have q4 := hgive _ S' H' Os' hfr hsub hext hnew hown hO
    rw [List.append_nil] at q4
    exact kk ⟨p, n⟩ (.ref p) S' H' (e1.trans hext) q4 rfl
end
def newH (size rise fall extra : Int) : HS := ⟨size, rise, fall, extra, [], [], [], []⟩
end SL

/-! the law's own hall: the same state, in dicts and lists -/
namespace SL
open PySem PySem.Spec PyProof.Rows L2
def mrowD (r : RowS) : List PyData := [.str r.name, .str r.zone, .int r.wt, .str (wdA r.well), .int r.cnt, .bool r.dr]
def mF (b : HA) (h : HS) : List (Str × Sl) := [("size", dI h.size), ("extra", dI h.extra), ("rows", sv (.ref b.rl)), ("stand", sv (.ref b.st)), ("last", sv (.ref b.la)), ("log", sv (.ref b.en)), ("rise", dI h.rise), ("fall", dI h.fall)]
def mR (b : HA) (h : HS) : List Res := [rDs b.p (mF b h), rRw b.rl (b.qs.zip (h.rows.map mrowD)), rDs b.st (onV dSO h.stand), rDs b.la (onV dS h.last), rL b.en h.log]
section
variable {b : HA} {h : HS}
theorem mf_size : lk (mF b h) "size" = some (dI h.size) := by unfold mF; rw [lk_pos (by decide +kernel)]
theorem mf_extra : lk (mF b h) "extra" = some (dI h.extra) := by unfold mF; rw [lk_neg (by decide +kernel), lk_pos (by decide +kernel)]
theorem mf_rows : lk (mF b h) "rows" = some (sv (.ref b.rl)) := by unfold mF; rw [lk_neg (by decide +kernel), lk_neg (by decide +kernel), lk_pos (by decide +kernel)]
theorem mf_stand : lk (mF b h) "stand" = some (sv (.ref b.st)) := by unfold mF; rw [lk_neg (by decide +kernel), lk_neg (by decide +kernel), lk_neg (by decide +kernel), lk_pos (by decide +kernel)]
theorem mf_last : lk (mF b h) "last" = some (sv (.ref b.la)) := by unfold mF; rw [lk_neg (by decide +kernel), lk_neg (by decide +kernel), lk_neg (by decide +kernel), lk_neg (by decide +kernel), lk_pos (by decide +kernel)]
theorem mf_log : lk (mF b h) "log" = some (sv (.ref b.en)) := by unfold mF; rw [lk_neg (by decide +kernel), lk_neg (by decide +kernel), lk_neg (by decide +kernel), lk_neg (by decide +kernel), lk_neg (by decide +kernel), lk_pos (by decide +kernel)]
theorem mf_rise : lk (mF b h) "rise" = some (dI h.rise) := by unfold mF; rw [lk_neg (by decide +kernel), lk_neg (by decide +kernel), lk_neg (by decide +kernel), lk_neg (by decide +kernel), lk_neg (by decide +kernel), lk_neg (by decide +kernel), lk_pos (by decide +kernel)]
theorem mf_fall : lk (mF b h) "fall" = some (dI h.fall) := by unfold mF; rw [lk_neg (by decide +kernel), lk_neg (by decide +kernel), lk_neg (by decide +kernel), lk_neg (by decide +kernel), lk_neg (by decide +kernel), lk_neg (by decide +kernel), lk_neg (by decide +kernel), lk_pos (by decide +kernel)]
end
theorem zip_mD (qs : List Addr) (rows : List RowS) : qs.zip (rows.map mrowD) = (qs.zip rows).map fun x => (x.1, mrowD x.2) := by
  induction qs generalizing rows with
  | nil => rfl
  | cons q qs ih =>
    cases rows with
    | nil => rfl
    | cons r rows => exact congrArg _ (ih rows)
theorem M_mem {b : HA} {h : HS} {x : Addr × RowS} (hx : x ∈ b.qs.zip h.rows) : ∃ n : Nat, h.rows[n]? = some x.2 ∧ b.qs[n]? = some x.1 ∧ (b.qs.zip (h.rows.map mrowD))[n]? = some (x.1, mrowD x.2) := by
  obtain ⟨n, hn⟩ := List.getElem?_of_mem hx
  obtain ⟨h1, h2⟩ := List.getElem?_zip_eq_some.mp hn
  exact ⟨n, h2, h1, List.getElem?_zip_eq_some.mpr ⟨h1, by rw [List.getElem?_map, h2]; rfl⟩⟩
theorem m_len {b : HA} {h : HS} (ok : b.qs.length = h.rows.length) : (b.qs.zip h.rows).length = h.rows.length := by rw [List.length_zip]; omega
/-- the live rows with where they lie -/
def liveP (b : HA) (h : HS) : List (Addr × RowS) := (b.qs.zip h.rows).filter fun x => x.2.well && !x.2.dr
theorem liveP_rows {b : HA} {h : HS} (ok : b.qs.length = h.rows.length) : (liveP b h).map Prod.snd = h.rows.filter fun r => r.well && !r.dr := by
  have e : (b.qs.zip h.rows).map Prod.snd = h.rows := List.map_snd_zip (by omega)
  unfold liveP
  conv => rhs; rw [← e]
  rw [List.filter_map]
  rfl
theorem liveH_rows (h : HS) : liveH h = (h.rows.filter fun r => r.well && !r.dr).map (sxH h) := by
  unfold liveH serversH
  rw [List.filter_map]
  rfl
end SL

/-! over a list of values that a call hands back; caps the other way -/
namespace SL
open PySem PySem.Spec PyProof.Rows L2
theorem ceil_eq {t d : Int} (hd : 0 < d) : 0 - (0 - t) / d = (t + d - 1) / d := by
  have a := Int.mul_ediv_add_emod (0 - t) d
  have a0 := Int.emod_nonneg (0 - t) (show d ≠ 0 by omega)
  have a1 := Int.emod_lt_of_pos (0 - t) hd
  generalize (0 - t) / d = q at *
  generalize (0 - t) % d = r at *
  have e2 : t + d - 1 = (d - 1 - r) + d * (0 - q) := by
    have : d * (0 - q) = - (d * q) := by rw [Int.mul_sub, Int.mul_zero, Int.zero_sub]
    omega
  rw [e2, Int.add_mul_ediv_left _ _ (by omega), Int.ediv_eq_zero_of_lt (by omega) (by omega)]
  omega
section
variable {ι : Type} {X : ι → Cx} {K : PySem.W.Frag} {E : Ent} {B : Hp} {Γ Γ' : Slots} {R R' R1 : List Res} {a b e o : Expr} {es : List Expr} {pos p' : Pos} {C : Addr} {s s1 s2 : Sl} {P : Program} {w : World} {mg : Str → Option Value} {base : Heap} {A : Around} {N ps : List Str}
theorem it_rlsN {ν : Type} {Rn : ν → List Res} {pn : ν → Addr} {ss : ν → List Sl} (F : Fam X P w K mg base A N) {tg : Expr} (h : EvN X K E Γ R e Rn (fun n => sv (.ref (pn n)))) (m : Nat) (hm : ∀ n, (Rn n)[m]? = some (rLs (pn n) (ss n))) : ItN X K E Γ R tg e Rn ss (fun n R' => R'[m]? = some (rLs (pn n) (ss n))) := by
  obtain ⟨t, a1, a2⟩ := h
  have hcell : ∀ {R : List Res} {Γ S σ H n}, R[m]? = some (rLs (pn n) (ss n)) → SR K E Γ R S σ H → ∃ vs, H (pn n) = some (.lst vs) ∧ All2 (fun (s : Sl) v => s.r K S v) (ss n) vs := fun hm q => by
    obtain ⟨O, ⟨vs, e, h1⟩, h⟩ := q.res m hm
    subst e
    exact ⟨vs, h _ _ hOne_same, h1⟩
  refine ⟨iList K t, fun i => by rw [← F.fK i]; exact pi_list (a1 i), fun S σ H Rk q k => a2 S σ H _ q fun n v S1 H1 e1 q1 r1 => ?_⟩
  cases (show v = .ref (pn n) from r1)
  obtain ⟨vs1, g1, _⟩ := hcell (hm n) q1
  refine ⟨_, rfl, ⟨_, SqL.of g1⟩, k n _ S1 H1 e1 q1 fun j Γ' R' S' σ' H' e' q' hC => ?_⟩
  obtain ⟨vs, c1, c2⟩ := hcell hC q'
  refine ⟨fun s hs => ?_, fun hn => ⟨vs, SqL.of c1, by rw [← c2.len]; exact hn⟩⟩
  obtain ⟨x, hx, hr⟩ := All2.get c2 hs
  refine ⟨⟨vs, x, SqL.of c1, hx⟩, fun y H'' ⟨z1, z2⟩ => ?_⟩
  subst z1
  cases sqL_same (xs := vs) (ys := vs) (x := y) z2 (SqL.of c1) hx
  exact ⟨S', Same.refl _, q', hr⟩
/-- f(e, ..), a builtin, of something new that is let go -/
theorem ev_callBd {ν : Type} {Rn : ν → List Res} {ss : ν → List Sl} {id : String} {f : Str} (F : Fam X P w K mg base A N) (hm : mg f = none) (hv : bootBuiltins f = some (.builtin id)) (ha : ArN X K E Γ R (e :: es) (fun n => R ++ Rn n) ss) (hc : ∀ n, ClJ X K E (.builtin id) (R ++ Rn n) (ss n) s)
    (hg : ∀ i, Gl (X i) f := by exact fun _ => rfl) (he : ∀ i, starEach (e :: es) (X i).env = (false, eval e (X i).env) :: starEach es (X i).env := by exact fun _ => rfl) (hpl : ∀ i, (backTo pos (starEach es (X i).env)).any (·.1) = false := by exact fun _ => rfl) (hn : f ≠ "__name__" := by decide) (hdb : (f == ("__debug__" : Str)) = false := by decide) :
    EvJ X K E Γ R (.Call (.Name f p') (e :: es) [] pos) R s := by
  obtain ⟨t, a1, a2⟩ := ha
  have hc' := fun n => Classical.choose_spec (hc n)
  exact ⟨tCB (fun vs H Q => ∃ n, Classical.choose (hc n) vs H Q) t, fun i => pe_callB (fun pins s σ H xs us Q I r ⟨n, h⟩ => (hc' n).1 i pins s σ H xs us Q I r h) (hg i) (by rw [F.fmg i]; exact hm) hv (a1 i) hn hdb (he i) (hpl i), fun S σ H Q q k => a2 S σ H _ q fun n vs S1 H1 e1 q1 r1 => ⟨n, (hc' n).2 Γ S1 σ H1 vs Q q1 r1 fun v S2 H2 e2 q2 r2 => k v S2 H2 (e1.trans e2) q2.drop r2⟩⟩
end
end SL

/-! the live rows as servers -/
namespace SL
open PySem PySem.Spec PyProof.Rows L2
theorem liveP_live {b : HA} {h : HS} (ok : b.qs.length = h.rows.length) : liveH h = (liveP b h).map fun x => sxH h x.2 := by
  rw [liveH_rows, ← liveP_rows ok, List.map_map]
  rfl
theorem freeP_free {b : HA} {h : HS} (ok : b.qs.length = h.rows.length) : freeA (serversH h) h.extra = ((liveP b h).filter fun x => decide ((heldH h x.2.name : Int) < capA (manyA (serversH h)) x.2.wt (((liveH h).map fun x => x.2.2.1).sum) h.extra)).map fun x => sxH h x.2 := by
  unfold freeA
  show (liveH h).filter (fun p => decide (p.2.2.2.2.2 < capA (manyA (serversH h)) p.2.2.1 (((liveH h).map fun x => x.2.2.1).sum) h.extra)) = _
  generalize ((liveH h).map fun x => x.2.2.1).sum = wh
  rw [liveP_live ok, List.filter_map]
  rfl
end SL

/-! marks by flag, spot, name; freezing in the middle -/
namespace SL
open PySem PySem.Spec PyProof.Rows L2
def flg (s : Int) (m : Int × Str) : Int := if decide (m.1 < s) then 1 else 0
def triD (s : Int) (m : Int × Str) : PyData := .tuple [.int (flg s m), .int m.1, .str m.2]
def leR (s : Int) (a b : Int × Str) : Bool := decide (flg s a < flg s b) || (decide (flg s a = flg s b) && leM a b)
theorem dataLt_tri (s : Int) (a b : Int × Str) : PySem.W.dataLt (triD s a) (triD s b) = (decide (flg s a < flg s b) || (decide (flg s a = flg s b) && PySem.W.dataLt (mkD a) (mkD b))) := by
  unfold triD
  rw [PySem.W.dataLt_tuple, PySem.W.dataLt_cons rfl, PySem.W.dataLt_int, ← PySem.W.dataLt_tuple]
  simp only [PyData.eqv, beq_iff_eq]
  by_cases h : flg s a = flg s b
  · rw [if_pos h, h]
    have : ¬ flg s b < flg s b := by omega
    simp [this, mkD]
  · rw [if_neg h]
    simp [h]
theorem leR_eq (s : Int) (a b : Int × Str) : leR s a b = PySem.W.dataLe false (fun d => d) (triD s a) (triD s b) := by
  rw [PySem.W.dataLe_eq]
  show _ = !PySem.W.dataLt (triD s b) (triD s a)
  rw [dataLt_tri]
  unfold leR
  have hm : leM a b = !PySem.W.dataLt (mkD b) (mkD a) := by rw [leM_eq, PySem.W.dataLe_eq]; rfl
  rw [hm]
  by_cases h1 : flg s a < flg s b
  · have h2 : ¬ flg s b < flg s a := by omega
    have h3 : ¬ flg s b = flg s a := by omega
    simp [h1, h2, h3]
  · by_cases h2 : flg s a = flg s b
    · simp [h2]
    · have h3 : flg s b < flg s a := by omega
      have h4 : ¬ flg s b = flg s a := by omega
      simp [h1, h2, h3]
theorem srt_tri (s : Int) (ms : List (Int × Str)) : srt (ms.map (triD s)) = (ms.mergeSort (leR s)).map (triD s) := by
  unfold srt
  exact (PySem.W.sort_maps (triD s) fun a _ b _ => leR_eq s a b).symm
theorem alike_tri (s : Int) (ms : List (Int × Str)) : PySem.W.AllAlike (ms.map (triD s)) := PySem.W.AllAlike.of fun _ _ => rfl
theorem sortable_tri (s : Int) (ms : List (Int × Str)) : PySem.W.Sortable (ms.map (triD s)) := PySem.W.Sortable.tuples fun b => ⟨_, _, rfl⟩
theorem dep_tri {s : Int} {ms : List (Int × Str)} : ∀ d ∈ ms.map (triD s), d.depth ≤ 32 := fun d hd => by
  obtain ⟨m, _, rfl⟩ := List.mem_map.mp hd
  exact (show dep (31 + 1) (triD s m) from dep_tup (depA_cons dep_int (depA_cons dep_int (depA_cons dep_str depA_nil))))
theorem leR_trans (s : Int) (a b c : Int × Str) (h1 : leR s a b = true) (h2 : leR s b c = true) : leR s a c = true := by
  unfold leR at *
  simp only [Bool.or_eq_true, Bool.and_eq_true, decide_eq_true_eq] at *
  rcases h1 with h1 | ⟨h1, h1'⟩ <;> rcases h2 with h2 | ⟨h2, h2'⟩
  · left; omega
  · left; omega
  · left; omega
  · right; exact ⟨by omega, leM_trans _ _ _ h1' h2'⟩
theorem leR_total (s : Int) (a b : Int × Str) : (leR s a b || leR s b a) = true := by
  unfold leR
  have := leM_total a b
  simp only [Bool.or_eq_true, Bool.and_eq_true, decide_eq_true_eq] at *
  by_cases h : flg s a = flg s b
  · rcases this with h2 | h2
    · exact .inl (.inr ⟨h, h2⟩)
    · exact .inr (.inr ⟨h.symm, h2⟩)
  · rcases Int.lt_or_gt_of_ne h with h2 | h2
    · exact .inl (.inl h2)
    · exact .inr (.inl h2)
theorem leR_anti {s : Int} {a b : Int × Str} (h1 : leR s a b = true) (h2 : leR s b a = true) : a = b := by
  unfold leR at *
  simp only [Bool.or_eq_true, Bool.and_eq_true, decide_eq_true_eq] at *
  rcases h1 with h1 | ⟨_, h1⟩ <;> rcases h2 with h2 | ⟨_, h2⟩
  · omega
  · omega
  · omega
  · exact leM_anti h1 h2
theorem ring_perm (ms : List (Int × Str)) (s : Int) : (ringA ms s).Perm ms := by
  unfold ringA
  have e : (fun m : Int × Str => decide (m.1 < s)) = fun m => !decide (m.1 ≥ s) := by
    funext m
    by_cases h : m.1 < s
    · have : ¬ m.1 ≥ s := by omega
      simp [h]
    · have : m.1 ≥ s := by omega
      simp [h, this]
  rw [e]
  exact List.filter_append_perm _ _
theorem ring_tri (s : Int) (ms : List (Int × Str)) : ms.mergeSort (leR s) = ringA (ms.mergeSort leM) s := by
  have hp : (ms.mergeSort leM).Pairwise (fun a b => leM a b = true) := List.pairwise_mergeSort leM_trans leM_total _
  refine List.Perm.eq_of_pairwise (le := fun a b => leR s a b = true) (fun a b _ _ h1 h2 => leR_anti h1 h2) (List.pairwise_mergeSort (leR_trans s) (leR_total s) _) ?_ ?_
  · unfold ringA
    rw [List.pairwise_append]
    have hi : ∀ m : Int × Str, m.1 ≥ s → flg s m = 0 := fun m h => by unfold flg; rw [if_neg (by simp; omega)]
    have lo : ∀ m : Int × Str, m.1 < s → flg s m = 1 := fun m h => by unfold flg; rw [if_pos (by simp; omega)]
    refine ⟨?_, ?_, ?_⟩
    · refine List.Pairwise.imp_of_mem (fun {a b} ha hb' hab => ?_) (hp.filter _)
      have a2 := of_decide_eq_true (List.mem_filter.mp ha).2
      have b2 := of_decide_eq_true (List.mem_filter.mp hb').2
      unfold leR
      rw [hi a a2, hi b b2]
      simp [hab]
    · refine List.Pairwise.imp_of_mem (fun {a b} ha hb' hab => ?_) (hp.filter _)
      have a2 := of_decide_eq_true (List.mem_filter.mp ha).2
      have b2 := of_decide_eq_true (List.mem_filter.mp hb').2
      unfold leR
      rw [lo a a2, lo b b2]
      simp [hab]
    · intro a ha b hb'
      have a2 := of_decide_eq_true (List.mem_filter.mp ha).2
      have b2 := of_decide_eq_true (List.mem_filter.mp hb').2
      unfold leR
      rw [hi a a2, lo b b2]
      rfl
  · exact (List.mergeSort_perm _ _).trans ((ring_perm _ _).trans (List.mergeSort_perm _ _)).symm
theorem row_tri (sv : List (Str × Int)) (size s : Int) : metA (((marksOf sv size).mergeSort (leR s)).map (·.2)) = rowA (marksA sv size) s := by
  rw [ring_tri]
  rfl
theorem sl_tri {s : Int} {ms : List (Int × Str)} : (ms.map (triD s)).map sl = ms.map fun m => sd (triD s m) := by
  rw [List.map_map]
  rfl
/-- servers as name and weight -/
def svR (rows : List RowS) : List (Str × Int) := rows.map fun r => (r.name, r.wt)
theorem svR_app (rows : List RowS) (r : RowS) : svR (rows ++ [r]) = svR rows ++ [(r.name, r.wt)] := by unfold svR; rw [List.map_append]; rfl
theorem svR_sv (h : HS) : svA (serversH h) = svR h.rows := by
  unfold svA serversH svR
  rw [List.map_map]
  rfl
theorem svR_ok {a : HA} {h : HS} (ok : HOk a h) {rows : List RowS} (hs : ∀ r ∈ rows, r ∈ h.rows) : svOk (svR rows) := fun p hp => by
  obtain ⟨r, hr, rfl⟩ := List.mem_map.mp hp
  obtain ⟨h1, _, h3, h4⟩ := ok.rows r (hs r hr)
  exact ⟨h1, h3, h4⟩
section
variable {ι : Type} {X : ι → Cx} {K : PySem.W.Frag} {E : Ent} {B : Hp} {Γ Γ' : Slots} {R R' R1 R2 : List Res} {a b e o : Expr} {es : List Expr} {pos p' : Pos} {C : Addr} {s s1 s2 : Sl} {P : Program} {w : World} {mg : Str → Option Value} {base : Heap} {A : Around} {N ps : List Str}
/-- a new list somewhere among ones own is let go of -/
theorem frzA {ds : List PyData} {Rn : Addr → List Res} (h : EvN X K E Γ R e Rn (fun p => sv (.ref p))) (k : Nat) (hk : ∀ p, (Rn p)[k]? = some (rL p ds)) (hs : ∀ p, List.Sublist R2 ((Rn p).set k rE)) : EvJ X K E Γ R e R2 (sd (.list ds)) := by
  obtain ⟨t, h1, h2⟩ := h
  refine ⟨t, h1, fun S σ H Q q k' => h2 S σ H _ q fun p v S1 H1 e1 q1 r1 => ?_⟩
  cases (show v = .ref p from r1)
  obtain ⟨S2, e2, q2, r2⟩ := q1.freezeAt k (hk p)
  exact k' _ S2 H1 (e1.trans e2) (q2.sub' (hs p)) r2
/-- len of a list of values -/
theorem cl_lenLs (F : Fam X P w K mg base A N) {p : Addr} {ss : List Sl} (k : Nat) (h : R[k]? = some (rLs p ss)) : ClJ X K E (.builtin "len") R [sv (.ref p)] (dI ss.length) :=
  ⟨fun xs H Q => ∃ x n, xs = [x] ∧ LenV K x H n ∧ Q (.int n) H, fun n => by rw [← F.fK n]; exact call_len, fun Γ S σ H vs Q q r k' => by
    obtain ⟨v, rfl, r1⟩ := all2_one r
    cases (show v = .ref p from r1)
    obtain ⟨O, ⟨vs, e, h2⟩, h1⟩ := q.res k h
    subst e
    exact ⟨_, ss.length, rfl, .inl ⟨vs, SqL.of (h1 p _ hOne_same), h2.len⟩, k' _ S H (Same.refl _) q rfl⟩⟩
end
end SL

/-! deeds at a hall, what they tell, what always holds behind them -/
namespace SL
open PySem PySem.Spec PyProof.Rows L2
inductive Deed where
  | put (n z : Str) (w : Int)
  | weigh (n : Str) (w : Int)
  | drain (n : Str)
  | fill (n : Str)
  | out (n : Str)
  | look (n : Str) (good : Bool)
  | falls (z : Str)
  | ask (a z : Str)
  | fin (a : Str)
  | evening
def Deed.d : Deed → List PyData
  | .put n z w => [.str "put", .str n, .str z, .int w]
  | .weigh n w => [.str "weigh", .str n, .int w]
  | .drain n => [.str "drain", .str n]
  | .fill n => [.str "fill", .str n]
  | .out n => [.str "out", .str n]
  | .look n g => [.str "look", .str n, .bool g]
  | .falls z => [.str "falls", .str z]
  | .ask a z => [.str "ask", .str a, .str z]
  | .fin a => [.str "end", .str a]
  | .evening => [.str "evening"]
def rowAt : List RowS → Str → Option (Nat × RowS)
  | [], _ => none
  | r :: t, n => if r.name = n then some (0, r) else (rowAt t n).map fun p => (p.1 + 1, p.2)
theorem rowAt_some : ∀ {rows : List RowS} {n : Str} {i : Nat} {r : RowS}, rowAt rows n = some (i, r) → rows[i]? = some r ∧ r.name = n
  | [], _, _, _, h => nomatch h
  | x :: t, n, i, r, h => by
    unfold rowAt at h
    split at h
    · rename_i e
      cases h
      exact ⟨rfl, e⟩
    · cases e : rowAt t n with
      | none => rw [e] at h; cases h
      | some p =>
        rw [e] at h
        cases h
        exact rowAt_some (rows := t) e
theorem rowAt_none : ∀ {rows : List RowS} {n : Str}, rowAt rows n = none → n ∉ rows.map RowS.name
  | [], _, _ => by simp
  | x :: t, n, h => by
    unfold rowAt at h
    split at h
    · cases h
    · rename_i e
      cases e2 : rowAt t n with
      | some p => rw [e2] at h; cases h
      | none =>
        rw [List.map_cons, List.mem_cons, not_or]
        exact ⟨fun z => e z.symm, rowAt_none e2⟩
theorem rowAt_of {rows : List RowS} {i : Nat} {r : RowS} (nd : (rows.map RowS.name).Nodup) (h : rows[i]? = some r) : rowAt rows r.name = some (i, r) := by
  cases e : rowAt rows r.name with
  | none => exact absurd (List.mem_map.mpr ⟨r, List.mem_of_getElem? h, rfl⟩) (rowAt_none e)
  | some p =>
    obtain ⟨j, q⟩ := p
    obtain ⟨h1, h2⟩ := rowAt_some e
    have := nd_at nd h1 h h2
    subst this
    rw [h] at h1
    cases h1
    rfl
def dueH (h : HS) : Deed → HS
  | .put n z w => match rowAt h.rows n with
    | some _ => h
    | none => putH h n z w
  | .weigh n w => match rowAt h.rows n with
    | some p => weighH h p.1 p.2 w
    | none => h
  | .drain n => match rowAt h.rows n with
    | some p => drainH h p.1 p.2
    | none => h
  | .fill n => match rowAt h.rows n with
    | some p => fillH h p.1 p.2
    | none => h
  | .out n => match rowAt h.rows n with
    | some p => outH h p.1 p.2
    | none => h
  | .look n g => match rowAt h.rows n with
    | some p => lookH h p.1 p.2 g
    | none => h
  | .falls z => if z ∈ h.rows.map RowS.zone then fallsH h z else h
  | .ask a z => match lk h.stand a with
    | some _ => h
    | none => if liveH h = [] then h else askH h a z
  | .fin a => match lk h.stand a with
    | some (some n) => endH h a n
    | _ => h
  | .evening => eveningH h
def noD (t : Str) : PyData := .tuple [.str "no", .str t]
def toldD (d : PyData) : PyData := .tuple [.str "told", d]
def dueA (h : HS) : Deed → PyData
  | .put n z w => match rowAt h.rows n with
    | some _ => noD "twice"
    | none => toldD .none
  | .weigh n _ | .drain n | .fill n | .out n | .look n _ => match rowAt h.rows n with
    | some _ => toldD .none
    | none => noD "unknown"
  | .falls z => if z ∈ h.rows.map RowS.zone then toldD .none else noD "unknown"
  | .ask a z => match lk h.stand a with
    | some _ => noD "twice"
    | none => if liveH h = [] then noD "noserver" else toldD (oD (ledH h a z))
  | .fin a => match lk h.stand a with
    | some (some n) => toldD (.str n)
    | _ => noD "unknown"
  | .evening => toldD (.int (eveningN h : Nat))
/-! what always holds -/
structure UOk (U : List Str) : Prop where
  nm : ∀ u ∈ U, nmOk u
  few : U.length ≤ 40
def DOk (U : List Str) : Deed → Prop
  | .put n z w => n ∈ U ∧ z ∈ U ∧ 1 ≤ w ∧ w ≤ 20
  | .weigh n w => n ∈ U ∧ 1 ≤ w ∧ w ≤ 20
  | .drain n | .fill n | .out n | .look n _ => n ∈ U
  | .falls z => z ∈ U
  | .ask a z => a ∈ U ∧ z ∈ U
  | .fin a => a ∈ U
  | .evening => True
structure HInv (U : List Str) (h : HS) (k : Nat) : Prop where
  rows : ∀ r ∈ h.rows, (r.name ∈ U ∧ r.zone ∈ U ∧ 1 ≤ r.wt ∧ r.wt ≤ 20) ∧ 0 ≤ r.cnt ∧ r.cnt ≤ k
  stand : ∀ x ∈ h.stand, x.1 ∈ U ∧ ∃ n, x.2 = some n ∧ n ∈ U
  last : ∀ x ∈ h.last, x.1 ∈ U ∧ x.2 ∈ U
  logs : h.log.length ≤ 81 * k
  ents : ∀ e ∈ h.log, ShD 60 e ∧ dep 2 e
  size : 0 < h.size
  extra : 0 ≤ h.extra ∧ h.extra ≤ 1000
  nd : (h.rows.map RowS.name).Nodup
  snd : (h.stand.map Prod.fst).Nodup
  lnd : (h.last.map Prod.fst).Nodup
section
variable {U : List Str} {h : HS} {k : Nat}
theorem HInv.few (i : HInv U h k) (u : UOk U) : h.rows.length ≤ 40 := by
  have := len_sub i.nd (m := U) fun x hx => by
    obtain ⟨r, hr, rfl⟩ := List.mem_map.mp hx
    exact (i.rows r hr).1.1
  rw [List.length_map] at this
  exact Nat.le_trans this u.few
theorem HInv.asks (i : HInv U h k) (u : UOk U) : h.stand.length ≤ 40 := by
  have := len_sub i.snd (m := U) fun x hx => by
    obtain ⟨r, hr, rfl⟩ := List.mem_map.mp hx
    exact (i.stand r hr).1
  rw [List.length_map] at this
  exact Nat.le_trans this u.few
theorem HInv.lasts (i : HInv U h k) (u : UOk U) : h.last.length ≤ 40 := by
  have := len_sub i.lnd (m := U) fun x hx => by
    obtain ⟨r, hr, rfl⟩ := List.mem_map.mp hx
    exact (i.last r hr).1
  rw [List.length_map] at this
  exact Nat.le_trans this u.few
theorem HInv.ok (i : HInv U h k) (u : UOk U) (hk : k ≤ 1000) {a : HA} (ha : a.qs.length = h.rows.length) : HOk a h :=
  ⟨ha, Nat.le_trans (i.few u) (by decide), Nat.le_trans (i.asks u) (by decide), Nat.le_trans (i.lasts u) (by decide), by have := i.logs; omega, i.size, i.extra, fun r hr => by
    obtain ⟨⟨h1, h2, h3, h4⟩, _⟩ := i.rows r hr
    exact ⟨u.nm _ h1, (u.nm _ h2).1, h3, h4⟩, i.nd, i.snd, i.lnd⟩
theorem HInv.mono (i : HInv U h k) {m : Nat} (hm : k ≤ m) : HInv U h m :=
  ⟨fun r hr => ⟨(i.rows r hr).1, (i.rows r hr).2.1, by have := (i.rows r hr).2.2; omega⟩, i.stand, i.last, by have := i.logs; omega, i.ents, i.size, i.extra, i.nd, i.snd, i.lnd⟩
end
theorem pt_mem {β : Type} {l : List (Str × β)} {x : Str} {v : β} {y : Str × β} (h : y ∈ pt l x v) : y = (x, v) ∨ (y ∈ l ∧ y.1 ≠ x) := by
  unfold pt at h
  split at h
  · obtain ⟨z, hz, e⟩ := List.mem_map.mp h
    split at e
    · rename_i e2
      left
      rw [← e, e2]
    · rename_i e2
      right
      rw [← e]
      exact ⟨hz, e2⟩
  · rename_i hn
    rcases List.mem_append.mp h with h | h
    · right
      refine ⟨h, fun e => hn ?_⟩
      exact List.any_eq_true.mpr ⟨y, h, decide_eq_true e⟩
    · left
      exact List.mem_singleton.mp h
theorem dr_mem {β : Type} {l : List (Str × β)} {x : Str} {y : Str × β} (h : y ∈ dr l x) : y ∈ l ∧ y.1 ≠ x := by
  unfold dr at h
  obtain ⟨h1, h2⟩ := List.mem_filter.mp h
  exact ⟨h1, by simpa using h2⟩
theorem pt_nd {β : Type} {l : List (Str × β)} {x : Str} {v : β} (h : (l.map Prod.fst).Nodup) : ((pt l x v).map Prod.fst).Nodup := by
  by_cases hx : x ∈ l.map Prod.fst
  · rw [keys_pt hx]; exact h
  · have : lk l x = none := by
      cases e : lk l x with
      | none => rfl
      | some u =>
        have h1 : (l.any fun a => decide (a.1 = x)) = true := by rw [any_lk, e]; rfl
        obtain ⟨y, hy, e2⟩ := List.any_eq_true.mp h1
        exact absurd (List.mem_map.mpr ⟨y, hy, of_decide_eq_true e2⟩) hx
    rw [pt_new this, List.map_append]
    exact List.nodup_append.mpr ⟨h, List.nodup_cons.mpr ⟨by simp, List.nodup_nil⟩, fun a ha b hb e => hx (by
      have hb' : b ∈ [x] := hb
      rw [List.mem_singleton.mp hb'] at e
      rw [← e]
      exact ha)⟩
theorem dr_nd {β : Type} {l : List (Str × β)} {x : Str} (h : (l.map Prod.fst).Nodup) : ((dr l x).map Prod.fst).Nodup := h.sublist ((List.filter_sublist).map _)
theorem sh_oD {U : List Str} (u : UOk U) {o : Option Str} (h : ∀ n, o = some n → n ∈ U) : ShD 9 (oD o) := by
  cases o with
  | none => exact sh_none.mono (by decide)
  | some n => exact sh_nm (u.nm _ (h n rfl))
theorem dep_oD {k : Nat} (o : Option Str) : dep k (oD o) := by
  cases o with
  | none => exact dep_none
  | some n => exact dep_str
theorem sh_w {x : Str} (h : (x.cps.toList.all fun c => decide (c < 16 ^ 8)) = true) (hl : x.length ≤ 9) : ShD 9 (.str x) := sh_str (fun c hc => of_decide_eq_true (List.all_eq_true.mp h c hc)) hl
theorem sh_e2 {x y : PyData} (h1 : ShD 9 x) (h2 : ShD 9 y) : ShD 60 (.tuple [x, y]) := (sh_tup (sha_cons h1 (sha_cons h2 sha_nil))).mono (by decide)
theorem sh_e3 {x y z : PyData} (h1 : ShD 9 x) (h2 : ShD 9 y) (h3 : ShD 9 z) : ShD 60 (.tuple [x, y, z]) := (sh_tup (sha_cons h1 (sha_cons h2 (sha_cons h3 sha_nil)))).mono (by decide)
theorem sh_e4 {x y z v : PyData} (h1 : ShD 9 x) (h2 : ShD 9 y) (h3 : ShD 9 z) (h4 : ShD 9 v) : ShD 60 (.tuple [x, y, z, v]) := (sh_tup (sha_cons h1 (sha_cons h2 (sha_cons h3 (sha_cons h4 sha_nil))))).mono (by decide)
theorem sh_wt {w : Int} (h : 1 ≤ w ∧ w ≤ 20) : ShD 9 (.int w) := by
  obtain ⟨n, rfl⟩ : ∃ n : Nat, w = n := ⟨w.toNat, by omega⟩
  have hn : n < 21 := by omega
  have h1 := sh_int (i := (n : Int)) (by omega)
  refine ⟨h1.s, h1.h, h1.l, ?_⟩
  have : ∀ m < 21, PyData.weight (.int (m : Nat)) ≤ 9 := by decide +kernel
  exact this n hn
end SL

/-! moves keep what always holds -/
namespace SL
open PySem PySem.Spec PyProof.Rows L2
def SameR (g h : HS) : Prop := (g.rows = h.rows ∧ g.size = h.size ∧ g.extra = h.extra) ∧ g.rise = h.rise ∧ g.fall = h.fall
theorem SameR.refl (h : HS) : SameR h h := ⟨⟨rfl, rfl, rfl⟩, rfl, rfl⟩
theorem SameR.trans {f g h : HS} (a : SameR f g) (b : SameR g h) : SameR f h := ⟨⟨a.1.1.trans b.1.1, a.1.2.1.trans b.1.2.1, a.1.2.2.trans b.1.2.2⟩, a.2.1.trans b.2.1, a.2.2.trans b.2.2⟩
theorem lost_same : ∀ (ps : List (Str × Option Str)) (h : HS), SameR (ps.foldl lostStep h) h
  | [], h => .refl h
  | p :: ps, h => (lost_same ps (lostStep h p)).trans ⟨⟨rfl, rfl, rfl⟩, rfl, rfl⟩
theorem moved_same : ∀ (ps : List ((Str × Option Str) × Str)) (h : HS), SameR (ps.foldl movedStep h) h
  | [], h => .refl h
  | p :: ps, h => (moved_same ps (movedStep h p)).trans ⟨⟨rfl, rfl, rfl⟩, rfl, rfl⟩
/-- while some asks have no server -/
structure Mid (U : List Str) (h : HS) (pend : List Str) : Prop where
  stand : ∀ y ∈ h.stand, y.1 ∈ U ∧ (y.1 ∈ pend ∨ ∃ n, y.2 = some n ∧ n ∈ U)
  last : ∀ x ∈ h.last, x.1 ∈ U ∧ x.2 ∈ U
  ents : ∀ e ∈ h.log, ShD 60 e ∧ dep 2 e
  snd : (h.stand.map Prod.fst).Nodup
  lnd : (h.last.map Prod.fst).Nodup
section
variable {U : List Str} {h : HS} {k : Nat} {pend : List Str}
theorem ents_app {l : List PyData} {e : PyData} (hl : ∀ e ∈ l, ShD 60 e ∧ dep 2 e) (he : ShD 60 e ∧ dep 2 e) : ∀ x ∈ l ++ [e], ShD 60 x ∧ dep 2 x := fun x hx => by
  rcases List.mem_append.mp hx with z | z
  · exact hl x z
  · rw [List.mem_singleton.mp z]; exact he
theorem Mid.lost (u : UOk U) {p : Str × Option Str} (m : Mid U h (p.1 :: pend)) (h1 : p.1 ∈ U) (h2 : ∀ n, p.2 = some n → n ∈ U) : Mid U (lostStep h p) pend where
  stand := fun y hy => by
    obtain ⟨a, b⟩ := dr_mem (show y ∈ dr h.stand p.1 from hy)
    obtain ⟨c, d⟩ := m.stand y a
    refine ⟨c, d.imp (fun z => ?_) id⟩
    rcases List.mem_cons.mp z with z | z
    · exact absurd z b
    · exact z
  last := fun x hx => m.last x (dr_mem (show x ∈ dr h.last p.1 from hx)).1
  ents := ents_app m.ents ⟨sh_e3 (sh_w (by decide +kernel) (by decide +kernel)) (sh_nm (u.nm _ h1)) (sh_oD u h2), dep_tup (depA_cons dep_str (depA_cons dep_str (depA_cons (dep_oD _) depA_nil)))⟩
  snd := dr_nd m.snd
  lnd := dr_nd m.lnd
theorem Mid.moved (u : UOk U) {p : (Str × Option Str) × Str} (m : Mid U h (p.1.1 :: pend)) (h1 : p.1.1 ∈ U) (h2 : ∀ n, p.1.2 = some n → n ∈ U) (h3 : p.2 ∈ U) : Mid U (movedStep h p) pend where
  stand := fun y hy => by
    rcases pt_mem (show y ∈ pt h.stand p.1.1 (some p.2) from hy) with e | ⟨a, b⟩
    · rw [e]; exact ⟨h1, .inr ⟨_, rfl, h3⟩⟩
    · obtain ⟨c, d⟩ := m.stand y a
      refine ⟨c, d.imp (fun z => ?_) id⟩
      rcases List.mem_cons.mp z with z | z
      · exact absurd z b
      · exact z
  last := m.last
  ents := ents_app m.ents ⟨sh_e4 (sh_w (by decide +kernel) (by decide +kernel)) (sh_nm (u.nm _ h1)) (sh_oD u h2) (sh_nm (u.nm _ h3)), dep_tup (depA_cons dep_str (depA_cons dep_str (depA_cons (dep_oD _) (depA_cons dep_str depA_nil))))⟩
  snd := pt_nd m.snd
  lnd := m.lnd
theorem Mid.losts (u : UOk U) : ∀ {ps : List (Str × Option Str)} {h : HS}, Mid U h (ps.map Prod.fst) → (∀ p ∈ ps, p.1 ∈ U ∧ ∀ n, p.2 = some n → n ∈ U) → Mid U (ps.foldl lostStep h) []
  | [], _, m, _ => m
  | p :: ps, h, m, hp => Mid.losts u (ps := ps) (h := lostStep h p) (Mid.lost u m (hp p (List.mem_cons_self ..)).1 (hp p (List.mem_cons_self ..)).2) fun q hq => hp q (List.mem_cons_of_mem _ hq)
theorem Mid.moveds (u : UOk U) : ∀ {ps : List ((Str × Option Str) × Str)} {h : HS}, Mid U h (ps.map fun p => p.1.1) → (∀ p ∈ ps, (p.1.1 ∈ U ∧ ∀ n, p.1.2 = some n → n ∈ U) ∧ p.2 ∈ U) → Mid U (ps.foldl movedStep h) []
  | [], _, m, _ => m
  | p :: ps, h, m, hp => Mid.moveds u (ps := ps) (h := movedStep h p) (Mid.moved u m (hp p (List.mem_cons_self ..)).1.1 (hp p (List.mem_cons_self ..)).1.2 (hp p (List.mem_cons_self ..)).2) fun q hq => hp q (List.mem_cons_of_mem _ hq)
theorem unset_mem : ∀ {xs : List Str} {st : List (Str × Option Str)} {y : Str × Option Str}, y ∈ unset st xs → y.1 ∈ xs ∨ y ∈ st
  | [], _, _, h => .inr h
  | x :: xs, st, y, h => by
    rcases unset_mem (xs := xs) (st := pt st x none) h with z | z
    · exact .inl (List.mem_cons_of_mem _ z)
    · rcases pt_mem z with e | ⟨a, _⟩
      · left; rw [e]; exact List.mem_cons_self ..
      · exact .inr a
end
theorem goes_ok {live : List Sx} (hx : sxOk live) (hne : live ≠ []) {extra : Int} (he : 0 ≤ extra) (m : Nat) : (goesA live extra m).length = m ∧ ∀ g ∈ goesA live extra m, g ∈ live.map (·.1) := by
  have l1 : (heldL' live).length = live.length := List.length_map ..
  have l2 : (wtsL' live).length = live.length := List.length_map ..
  have l3 : (capsA ((heldL' live).sum + m) (wtsL' live) extra).length = live.length := by unfold capsA; rw [List.length_map, l2]
  have h0 : 0 ≤ (heldL' live).sum := by
    have : ∀ l : List Sx, (∀ p ∈ l, 0 ≤ p.2.2.2.2.2) → 0 ≤ (heldL' l).sum := by
      intro l
      induction l with
      | nil => intro _; exact Int.le_refl _
      | cons y l ih =>
        intro hy
        have a1 := hy y (List.mem_cons_self ..)
        have a2 := ih fun p hp => hy p (List.mem_cons_of_mem _ hp)
        show 0 ≤ (y.2.2.2.2.2 :: heldL' l).sum
        rw [List.sum_cons]
        omega
    exact this live fun p hp => (hx p hp).2.2.2.2
  have hw : 0 < (wtsL' live).sum := by
    have : ∀ l : List Sx, (∀ p ∈ l, 1 ≤ p.2.2.1) → 0 ≤ (wtsL' l).sum := by
      intro l
      induction l with
      | nil => intro _; exact Int.le_refl _
      | cons y l ih =>
        intro hy
        have a1 := hy y (List.mem_cons_self ..)
        have a2 := ih fun p hp => hy p (List.mem_cons_of_mem _ hp)
        show 0 ≤ (y.2.2.1 :: wtsL' l).sum
        rw [List.sum_cons]
        omega
    cases live with
    | nil => exact absurd rfl hne
    | cons y l =>
      have a1 := (hx y (List.mem_cons_self ..)).2.2.1
      have a2 := this l fun p hp => (hx p (List.mem_cons_of_mem _ hp)).2.2.1
      show 0 < (y.2.2.1 :: wtsL' l).sum
      rw [List.sum_cons]
      omega
  have h1 := caps_sum (many := (heldL' live).sum + m) (extra := extra) hw (by omega) he
  have h2 := room_ge (heldL' live) (capsA ((heldL' live).sum + m) (wtsL' live) extra) (by omega)
  obtain ⟨f1, f2⟩ := deal_full (ws := wtsL' live) (caps := capsA ((heldL' live).sum + m) (wtsL' live) extra) m (heldL' live) (by omega) (by omega)
  refine ⟨by unfold goesA spotsA; rw [List.length_map]; exact f1, fun g hg => ?_⟩
  obtain ⟨p, hp, rfl⟩ := List.mem_map.mp hg
  have := f2 p hp
  exact List.mem_map.mpr ⟨_, getD_mem (by omega), rfl⟩
section
variable {U : List Str} {h : HS} {k : Nat}
theorem HInv.of {g : HS} (i : HInv U h k) (s : SameR g h) (m : Mid U g []) {j : Nat} (hj : k ≤ j) (hl : g.log.length ≤ 81 * j) : HInv U g j := by
  obtain ⟨⟨s1, s2, s3⟩, _, _⟩ := s
  refine ⟨fun r hr => ?_, fun x hx => ?_, m.last, hl, m.ents, by rw [s2]; exact i.size, by rw [s3]; exact i.extra, by rw [s1]; exact i.nd, m.snd, m.lnd⟩
  · rw [s1] at hr
    obtain ⟨a, b, c⟩ := i.rows r hr
    exact ⟨a, b, by omega⟩
  · obtain ⟨a, b⟩ := m.stand x hx
    exact ⟨a, b.resolve_left (by simp)⟩
theorem HInv.mid (i : HInv U h k) : Mid U h [] := ⟨fun y hy => ⟨(i.stand y hy).1, .inr (i.stand y hy).2⟩, i.last, i.ents, i.snd, i.lnd⟩
theorem live_in (i : HInv U h k) : sxOk (liveH h) → ∀ g ∈ (liveH h).map (·.1), g ∈ U := fun _ g hg => by
  obtain ⟨p, hp, rfl⟩ := List.mem_map.mp hg
  obtain ⟨r, hr, rfl⟩ := List.mem_map.mp (List.mem_filter.mp hp).1
  exact (i.rows r hr).1.1
theorem sx_of (i : HInv U h k) (u : UOk U) : sxOk (serversH h) := fun p hp => by
  obtain ⟨r, hr, rfl⟩ := List.mem_map.mp hp
  obtain ⟨⟨h1, h2, h3, h4⟩, _⟩ := i.rows r hr
  exact ⟨u.nm _ h1, (u.nm _ h2).1, h3, h4, Int.natCast_nonneg _⟩
theorem lsx_of (i : HInv U h k) (u : UOk U) : sxOk (liveH h) := fun p hp => sx_of i u p (List.mem_filter.mp hp).1
/-- a move -/
theorem move_mid (i : HInv U h k) (u : UOk U) {xs : List Str} (nd : xs.Nodup) (hin : ∀ x ∈ xs, x ∈ h.stand.map Prod.fst) : SameR (moveH h xs) h ∧ Mid U (moveH h xs) [] ∧ (moveH h xs).log.length = h.log.length + xs.length := by
  obtain ⟨h1, hh1⟩ : ∃ z : HS, z = { h with stand := unset h.stand xs } := ⟨_, rfl⟩
  have hmv : moveH h xs = if liveH h1 = [] then (xs.zip (oldsH h xs)).foldl lostStep h1 else ((xs.zip (oldsH h xs)).zip (goesA (liveH h1) h.extra xs.length)).foldl movedStep h1 := by rw [hh1]; rfl
  have s1 : SameR h1 h := by rw [hh1]; exact ⟨⟨rfl, rfl, rfl⟩, rfl, rfl⟩
  have hl1 : h1.log = h.log := by rw [hh1]
  have hol : (oldsH h xs).length = xs.length := List.length_map ..
  have hk : (unset h.stand xs).map Prod.fst = h.stand.map Prod.fst := keys_unset hin
  have hU : ∀ x ∈ xs, x ∈ U := fun x hx => by
    obtain ⟨y, hy, e⟩ := List.mem_map.mp (hin x hx)
    rw [← e]; exact (i.stand y hy).1
  have m1 : Mid U h1 xs := by
    refine ⟨fun y hy => ?_, by rw [hh1]; exact i.last, by rw [hh1]; exact i.ents, by rw [hh1]; show ((unset h.stand xs).map Prod.fst).Nodup; rw [hk]; exact i.snd, by rw [hh1]; exact i.lnd⟩
    rw [hh1] at hy
    rcases unset_mem (show y ∈ unset h.stand xs from hy) with z | z
    · exact ⟨hU _ z, .inl z⟩
    · exact ⟨(i.stand y z).1, .inr (i.stand y z).2⟩
  have hold : ∀ p ∈ xs.zip (oldsH h xs), p.1 ∈ U ∧ ∀ n, p.2 = some n → n ∈ U := fun p hp => by
    refine ⟨hU _ (List.of_mem_zip hp).1, fun n hn => ?_⟩
    obtain ⟨x, hx, e⟩ := List.mem_map.mp (List.of_mem_zip hp).2
    obtain ⟨v, hv⟩ := lk_some (hin x hx)
    rw [hv] at e
    have e : v = p.2 := e
    rw [hn] at e
    have h2 : ∃ y ∈ h.stand, y.1 = x ∧ y.2 = v := by
      have : ∀ (l : List (Str × Option Str)), lk l x = some v → ∃ y ∈ l, y.1 = x ∧ y.2 = v := by
        intro l
        induction l with
        | nil => intro z; cases z
        | cons a l ih =>
          intro z
          obtain ⟨ak, av⟩ := a
          by_cases c : ak = x
          · rw [lk_pos c] at z
            cases z
            exact ⟨_, List.mem_cons_self .., c, rfl⟩
          · rw [lk_neg c] at z
            obtain ⟨y, hy, g⟩ := ih z
            exact ⟨y, List.mem_cons_of_mem _ hy, g⟩
      exact this _ hv
    obtain ⟨y, hy, e1, e2⟩ := h2
    obtain ⟨m, hm, hmu⟩ := (i.stand y hy).2
    rw [e2, e] at hm
    cases hm
    exact hmu
  have hfst : (xs.zip (oldsH h xs)).map Prod.fst = xs := List.map_fst_zip (by omega)
  rw [hmv]
  split
  · refine ⟨(lost_same _ _).trans s1, Mid.losts u (by rw [hfst]; exact m1) hold, ?_⟩
    rw [lost_log, hl1, List.length_zip]
    omega
  · rename_i hne
    have hlv : sxOk (liveH h1) := fun p hp => by
      have hr1 : h1.rows = h.rows := s1.1.1
      obtain ⟨r, hr, rfl⟩ := List.mem_map.mp (List.mem_filter.mp hp).1
      rw [hr1] at hr
      obtain ⟨⟨g1, g2, g3, g4⟩, _⟩ := i.rows r hr
      exact ⟨u.nm _ g1, (u.nm _ g2).1, g3, g4, Int.natCast_nonneg _⟩
    obtain ⟨gl, gm⟩ := goes_ok hlv hne i.extra.1 xs.length
    have hz : ((xs.zip (oldsH h xs)).zip (goesA (liveH h1) h.extra xs.length)).map (fun p => p.1.1) = xs := by
      have e : ((xs.zip (oldsH h xs)).zip (goesA (liveH h1) h.extra xs.length)).map Prod.fst = xs.zip (oldsH h xs) := List.map_fst_zip (by rw [List.length_zip, gl]; omega)
      have e2 : ((xs.zip (oldsH h xs)).zip (goesA (liveH h1) h.extra xs.length)).map (fun p => p.1.1) = (((xs.zip (oldsH h xs)).zip (goesA (liveH h1) h.extra xs.length)).map Prod.fst).map Prod.fst := by rw [List.map_map]; rfl
      rw [e2, e, hfst]
    refine ⟨(moved_same _ _).trans s1, Mid.moveds u (by rw [hz]; exact m1) (fun p hp => ⟨hold _ (List.of_mem_zip hp).1, ?_⟩), ?_⟩
    · obtain ⟨q, hq, e⟩ := List.mem_map.mp (gm _ (List.of_mem_zip hp).2)
      obtain ⟨r, hr, rfl⟩ := List.mem_map.mp (List.mem_filter.mp hq).1
      have hr1 : h1.rows = h.rows := s1.1.1
      rw [hr1] at hr
      rw [← e]
      exact (i.rows r hr).1.1
    · rw [moved_log.1, hl1, List.length_zip, List.length_zip, gl]
      omega
theorem at_in (i : HInv U h k) (ns : List Str) : (atH h ns).Nodup ∧ (∀ x ∈ atH h ns, x ∈ h.stand.map Prod.fst) ∧ (atH h ns).length ≤ h.stand.length := by
  refine ⟨i.snd.sublist ((List.filter_sublist).map Prod.fst), fun x hx => ?_, ?_⟩
  · obtain ⟨y, hy, e⟩ := List.mem_map.mp hx
    exact List.mem_map.mpr ⟨y, (List.mem_filter.mp hy).1, e⟩
  · unfold atH
    rw [List.length_map]
    exact List.length_filter_le _ _
theorem allMove_inv (i : HInv U h k) (u : UOk U) (ns : List Str) {j : Nat} (hj : k ≤ j) (hl : h.log.length + 40 ≤ 81 * j) : HInv U (allMoveH h ns) j := by
  obtain ⟨n1, n2, n3⟩ := at_in i ns
  have n4 := i.asks u
  obtain ⟨a, b, c⟩ := move_mid i u n1 n2
  exact i.of a b hj (by show (moveH h (atH h ns)).log.length ≤ _; omega)
end
end SL

/-! a display of new things; the law's own hall at first -/
namespace SL
open PySem PySem.Spec PyProof.Rows L2
section
variable {ι : Type} {X : ι → Cx} {K : PySem.W.Frag} {E : Ent} {B : Hp} {Γ Γ' : Slots} {R R' : List Res} {a b e o : Expr} {pos p' : Pos} {x : Str}
def PpN {ν μ : Type} (X : ι → Cx) (K : PySem.W.Frag) (E : Ent) (Γ : Slots) (R : ν → List Res) (pos : Pos) (ks : List (Option Expr)) (vs : List Expr) (R' : ν → μ → List Res) (kss : ν → μ → List (Str × Sl)) : Prop :=
  ∃ trs : List (TE × TE), (∀ i, PPs (X i) pos ks vs trs) ∧ ∀ n S σ H (Q : List (V × V) → Hp → Prop), SR K E Γ (R n) S σ H → (∀ m kvs S' H', Same S S' → SR K E Γ (R' n m) S' σ H' → KRs K S' (kss n m) kvs → Q (kvs.map fun kv => (kV kv.1, kv.2)) H') → tPairs trs σ H Q
theorem ppn_nil {ν : Type} {R : ν → List Res} : PpN X K E Γ R pos [] [] (fun n (_ : Unit) => R n) (fun _ _ => []) := ⟨[], fun _ => pps_nil, fun n S σ H Q q k => k () [] S H (Same.refl _) q .nil⟩
theorem ppn_cons {ν κ μ : Type} {R : ν → List Res} {R1 : ν → κ → List Res} {s : ν → κ → Sl} {R2' : ν × κ → μ → List Res} {ks : List (Option Expr)} {vs : List Expr} {kss : ν × κ → μ → List (Str × Sl)} (hk : ∀ n, EvJ X K E Γ (R n) a (R n) (dS x)) (hv : ∀ n, EvN X K E Γ (R n) b (R1 n) (s n)) (hr : PpN X K E Γ (fun n : ν × κ => R1 n.1 n.2) pos ks vs R2' kss) :
    PpN X K E Γ R pos (some a :: ks) (b :: vs) (fun n (m : κ × μ) => R2' (n, m.1) m.2) (fun n m => (x, s n m.1) :: kss (n, m.1) m.2) := by
  have hk' := fun n => Classical.choose_spec (hk n)
  have hv' := fun n => Classical.choose_spec (hv n)
  obtain ⟨tr, r1, r2⟩ := hr
  refine ⟨(_, _) :: tr, fun i => pps_cons (pe_any fun n => (hk' n).1 i) (pe_any fun n => (hv' n).1 i) (r1 i), fun n S σ H Q q k => ⟨n, (hk' n).2 S σ H _ q fun v S1 H1 e1 q1 g1 => ⟨n, (hv' n).2 S1 σ H1 _ q1 fun c u S2 H2 e2 q2 g2 => r2 (n, c) S2 σ H2 _ q2 fun m kvs S3 H3 e3 q3 g3 => ?_⟩⟩⟩
  cases (show v = .str x from g1)
  exact k (c, m) ((.inr x, u) :: kvs) S3 H3 ((e1.trans e2).trans e3) q3 (.cons ⟨rfl, (s n c).mono e3 g2⟩ g3)
theorem el_dispN {μ : Type} {Rn : Addr → μ → List Res} {ks : List (Option Expr)} {vs : List Expr} {kss : Addr → μ → List (Str × Sl)} (h : PpN X K E Γ (fun p => R ++ [rDs p []]) pos ks vs (fun p m => R ++ (rDs p [] :: Rn p m)) kss) (hall : ks.all (·.isSome) = true := by rfl) (hl : ks.length = vs.length := by rfl) (h0 : ks ≠ [] := by exact fun h => nomatch h) (h15 : ks.length ≤ 15 := by exact Nat.le_of_ble_eq_true rfl) (hz : ∀ p m, (kss p m).length ≤ 15 := by exact fun _ _ => Nat.le_of_ble_eq_true rfl) :
    EvN X K E Γ R (.Dict ks vs pos) (fun n : Addr × μ => R ++ (rDs n.1 (mergeS [] (kss n.1 n.2)) :: Rn n.1 n.2)) (fun n => sv (.ref n.1)) := by
  obtain ⟨trs, h1, h2⟩ := h
  refine ⟨tDisp trs, fun i => pe_disp (h1 i) hall hl h0 h15, fun S σ H Q q k p hp => ?_⟩
  refine h2 p S σ _ _ (q.mine hp ⟨[], rfl, .nil⟩) fun m kvs S1 H1 e1 q1 g1 => ?_
  have hk : (R ++ (rDs p [] :: Rn p m))[R.length]? = some (rDs p []) := by simp
  obtain ⟨kvs0, c1, c2⟩ := q1.cellD R.length hk
  cases c2
  refine ⟨c1, kvs, rfl, by rw [← g1.len]; exact hz p m, ?_⟩
  have q2 := q1.putD R.length hk (KRs.merge g1 (show KRs K S1 [] [] from .nil))
  have e : (R ++ (rDs p [] :: Rn p m)).set R.length (rDs p (mergeS [] (kss p m))) = R ++ (rDs p (mergeS [] (kss p m)) :: Rn p m) := by simp
  rw [e] at q2
  exact k (p, m) (.ref p) S1 _ e1 q2 rfl
end
theorem lk_none {β : Type} {l : List (Str × β)} {x : Str} (h : x ∉ l.map Prod.fst) : lk l x = none := by
  cases e : lk l x with
  | none => rfl
  | some u =>
    have h1 : (l.any fun a => decide (a.1 = x)) = true := by rw [any_lk, e]; rfl
    obtain ⟨y, hy, e2⟩ := List.any_eq_true.mp h1
    exact absurd (List.mem_map.mpr ⟨y, hy, of_decide_eq_true e2⟩) h
theorem merge_new : ∀ {kss acc : List (Str × Sl)}, ((acc ++ kss).map Prod.fst).Nodup → mergeS acc kss = acc ++ kss
  | [], acc, _ => (List.append_nil _).symm
  | (x, s) :: kss, acc, h => by
    show mergeS (pt acc x s) kss = _
    have hn : x ∉ acc.map Prod.fst := fun hm => by
      rw [List.map_append] at h
      exact (List.nodup_append.mp h).2.2 _ hm _ (List.mem_cons_self ..) rfl
    rw [pt_new (lk_none hn), merge_new (by rw [List.append_assoc]; exact h), List.append_assoc]
    rfl
/-! drawn -/
def sizeA (s : List Int) : Int := (List.map dint [.int 1, .int (1 + byA s 1 9), .int 100, .int (1000000000 - (1 + byA s 1 9))]).getD (byA s 2 4).toNat 0
def extraA (s : List Int) : Int := (List.map dint [.int 0, .int 0, .int 25, .int (byA s 4 120), .int 1000]).getD (byA s 5 5).toNat 0
def mnewH (s : List Int) : HS := newH (sizeA s) (1 + byA s 6 3) (1 + byA s 7 3) (extraA s)
theorem sizeA_pos (s : List Int) : 0 < sizeA s := by
  have c1 : 0 ≤ byA s 1 9 := by_nn (by decide)
  have c2 : byA s 1 9 < 9 := by_lt (by decide)
  have b1 : 0 ≤ byA s 2 4 := by_nn (by decide)
  have b2 : byA s 2 4 < 4 := by_lt (by decide)
  exact menu_all (Q := fun z => 0 < z) (by
    simp only [List.map_cons, List.map_nil, dint]
    intro z hz
    simp only [List.mem_cons, List.not_mem_nil, or_false] at hz
    omega) (by simp; omega)
theorem extraA_ok (s : List Int) : 0 ≤ extraA s ∧ extraA s ≤ 1000 := by
  have c1 : 0 ≤ byA s 4 120 := by_nn (by decide)
  have c2 : byA s 4 120 < 120 := by_lt (by decide)
  have b1 : 0 ≤ byA s 5 5 := by_nn (by decide)
  have b2 : byA s 5 5 < 5 := by_lt (by decide)
  exact menu_all (Q := fun z => 0 ≤ z ∧ z ≤ 1000) (by
    simp only [List.map_cons, List.map_nil, dint]
    intro z hz
    simp only [List.mem_cons, List.not_mem_nil, or_false] at hz
    omega) (by simp; omega)
theorem mnew_inv (U : List Str) (s : List Int) (k : Nat) : HInv U (mnewH s) k :=
  ⟨fun r hr => (nomatch hr), fun x hx => (nomatch hx), fun x hx => (nomatch hx), Nat.zero_le _, fun e he => (nomatch he), sizeA_pos s, extraA_ok s, List.nodup_nil, List.nodup_nil, List.nodup_nil⟩
end SL

/-! who is led, by rows -/
namespace SL
open PySem PySem.Spec PyProof.Rows L2
def sxM (h : HS) (x : Addr × RowS) : Sx := sxH h x.2
theorem someP_eq (h : HS) (fr : List (Addr × RowS)) (zone : Str) (extra : Int) (hf : freeA (serversH h) extra = fr.map (sxM h)) : someA (serversH h) zone extra = (if decide (((fr.filter fun x => decide (x.2.zone = zone)).length : Int) > 0) = true then fr.filter fun x => decide (x.2.zone = zone) else fr).map (sxM h) := by
  unfold someA
  rw [hf]
  have e : nearA (fr.map (sxM h)) zone = (fr.filter fun x => decide (x.2.zone = zone)).map (sxM h) := by
    unfold nearA
    rw [List.filter_map]
    rfl
  rw [e, List.length_map]
  split <;> rfl
/-- the pick of a name is its server -/
theorem pick_sx {h : HS} {zone : Str} {extra : Int} {n : Str} (hn : (lk (namedA (someA (serversH h) zone extra)) n).isSome = true) : ∃ r ∈ h.rows, r.name = n ∧ lk (namedA (someA (serversH h) zone extra)) n = some (sxH h r) ∧ pickA (namedA (someA (serversH h) zone extra)) n = sxH h r := by
  obtain ⟨p, hp⟩ := Option.isSome_iff_exists.mp hn
  obtain ⟨h1, h2⟩ := named_mem _ hp
  obtain ⟨r, hr, e⟩ := List.mem_map.mp (free_sub (some_sub h1))
  subst e
  refine ⟨r, hr, h2, hp, ?_⟩
  unfold pickA
  rw [hp]
  rfl
end SL

/-! a row taken out that stays one's own; looks, evenings: the plain side -/
namespace SL
open PySem PySem.Spec PyProof.Rows L2
section
variable {K : PySem.W.Frag} {E : Ent} {Γ : List (Option Sl)} {R R' : List Res} {S S' H H' : Hp} {σ : L2.St} {p : Addr} {o' : HO}
/-- writing into what has several cells, of which some go apart -/
theorem SR.putM2 (q : SR K E Γ R S σ H) (k : Nat) {ρ ρ' ρ2 : Res} (hk : R[k]? = some ρ) (h1 : ∀ O, ρ.r K S O → Same O H → ∃ O' O2, (O p ≠ none ∧ ρ'.r K S O' ∧ ρ2.r K S O2) ∧ (Same O' (upd H p o') ∧ Same O2 (upd H p o')) ∧ (∀ a, O' a ≠ none → O a ≠ none) ∧ (∀ a, O2 a ≠ none → O a ≠ none) ∧ ∀ a, O' a ≠ none → O2 a = none) : SR K E Γ (R.set k ρ' ++ [ρ2]) S σ (upd H p o') := by
  obtain ⟨Os, ⟨a1, a2⟩, a3⟩ := q.own
  obtain ⟨O, e1, ⟨g1, g2, g3⟩, g4⟩ := all2_split a1 hk
  obtain ⟨O', O2, ⟨n1, n2, n2'⟩, ⟨n3, n3'⟩, n4, n4', n5⟩ := h1 O g1 g2
  have hp : S p = none := g3 p n1
  have own_p : E.A0 p ∨ E.H0 p = none := a3 _ (List.mem_of_getElem? e1) p n1
  have others : ∀ (j : Nat) O3, j ≠ k → Os[j]? = some O3 → ∀ a, O a ≠ none → O3 a = none := fun j O3 hj e => disj_symm (pairwise_get a2 (fun _ _ => disj_symm) hj e e1)
  refine ⟨same_under q.sub hp, q.ext, fun a u e n => ?_, q.new, ⟨Os.set k O' ++ [O2], ⟨?_, ?_⟩, fun O3 hO a ha => ?_⟩, q.slots⟩
  · by_cases ha : a = p
    · subst ha
      rcases own_p with z | z
      · exact absurd z n
      · rw [z] at e; cases e
    · rw [upd_ne ha]; exact q.fr a u e n
  · exact All2.app (g4 O' _ ρ' ⟨n2, n3, fun a ha => g3 a (n4 a ha)⟩ fun j x y hj e2 e3 ⟨b1, b2, b3⟩ => ⟨b1, same_under b2 (others j y hj e3 p n1), b3⟩) (.cons ⟨n2', n3', fun a ha => g3 a (n4' a ha)⟩ .nil)
  · refine List.pairwise_append.mpr ⟨pairwise_set (fun _ _ => disj_symm) a2 fun j O3 hj e a ha => ?_, List.pairwise_singleton _ _, fun O3 hO O4 hO4 a ha => ?_⟩
    · by_cases z : O' a = none
      · exact z
      · exact absurd (others j O3 hj e a (n4 a z)) ha
    · rw [List.mem_singleton.mp hO4]
      by_cases z : O2 a = none
      · exact z
      · exfalso
        obtain ⟨j, hj⟩ := List.getElem?_of_mem hO
        by_cases e : j = k
        · subst e
          have hlt : j < Os.length := (List.getElem?_eq_some_iff.mp e1).1
          rw [List.getElem?_set_self hlt] at hj
          cases hj
          exact z (n5 a ha)
        · rw [List.getElem?_set_ne (fun z => e z.symm)] at hj
          exact ha (others j O3 e hj a (n4' a z))
  · rcases List.mem_append.mp hO with z | z
    · rcases List.mem_or_eq_of_mem_set z with z | z
      · exact a3 O3 z a ha
      · subst z
        exact a3 O (List.mem_of_getElem? e1) a (n4 a ha)
    · rw [List.mem_singleton.mp z] at ha
      exact a3 O (List.mem_of_getElem? e1) a (n4' a ha)
theorem rw_del2 {O : Hp} {l r : Addr} {qr : List (Addr × List PyData)} {ds : List PyData} {n : Nat} (hn : qr[n]? = some (r, ds)) (h : RwR K S O l qr) (hs : Same O H) :
    ∃ O' O2, (O l ≠ none ∧ (rRw l (qr.eraseIdx n)).r K S O' ∧ (rL r ds).r K S O2) ∧ (Same O' (upd H l (.lst (((qr.map Prod.fst).eraseIdx n).map V.ref))) ∧ Same O2 (upd H l (.lst (((qr.map Prod.fst).eraseIdx n).map V.ref)))) ∧ (∀ a, O' a ≠ none → O a ≠ none) ∧ (∀ a, O2 a ≠ none → O a ≠ none) ∧ ∀ a, O' a ≠ none → O2 a = none := by
  obtain ⟨O', a1, a2, a3, a4⟩ := rw_del hn h hs
  have hmem := List.mem_of_getElem? hn
  obtain ⟨vs, v1, v2⟩ := h.rows _ hmem
  have v1 : O r = some (.lst vs) := v1
  have hlr : l ≠ r := fun z => h.nl (z ▸ List.mem_map.mpr ⟨_, hmem, rfl⟩)
  refine ⟨O', hOne r (.lst vs), ⟨a1, a2, ⟨vs, rfl, v2⟩⟩, ⟨a3, fun a u e => ?_⟩, a4, fun a ha => ?_, fun a ha => ?_⟩
  · obtain ⟨e1, e2⟩ := hOne_some e
    subst e1 e2
    rw [upd_ne (fun z => hlr z.symm)]
    exact hs _ _ v1
  · rw [hOne_not ha, v1]
    simp
  · refine hOne_ne fun z => ?_
    subst z
    have a2 : RwR K S O' l (qr.eraseIdx n) := a2
    rcases a2.all _ ha with z | z
    · exact hlr z.symm
    · have em : (qr.eraseIdx n).map Prod.fst = (qr.map Prod.fst).eraseIdx n := (erase_map' _ _ _).symm
      rw [em] at z
      obtain ⟨i, hne, hi⟩ := List.mem_eraseIdx_iff_getElem?.mp z
      have h1 : (qr.map Prod.fst)[n]? = some a := by rw [List.getElem?_map, hn]; rfl
      have := nd_at (f := id) (l := qr.map Prod.fst) (by rw [List.map_id]; exact h.nd) hi h1 rfl
      exact hne this
end
section
variable {ι : Type} {X : ι → Cx} {K : PySem.W.Frag} {E : Ent} {B : Hp} {Γ Γ' : Slots} {R R' R1 : List Res} {a b e o : Expr} {es : List Expr} {pos p' : Pos} {C : Addr} {s s1 s2 : Sl} {P : Program} {w : World} {mg : Str → Option Value} {base : Heap} {A : Around} {N ps : List Str}
/-- l.remove(row), the row stays -/
theorem ev_remRowK {n0 : Nat} (F : Fam X P w K mg base A N) (hr : Room n0 A) (k : Nat) {l r : Addr} {qr : List (Addr × List PyData)} {ds : List PyData} {n : Nat} {apos : Pos} (ho : EvJ X K E Γ R o R (sv (.ref l))) (ha : EvJ X K E Γ R e R (sv (.ref r))) (hk : R[k]? = some (rRw l qr)) (hn : qr[n]? = some (r, ds)) (hdep : ∀ x ∈ qr, dep 32 (.list x.2)) (hno : ∀ m, m < n → ∀ x, qr[m]? = some x → PyData.eqv (.list x.2) (.list ds) = false)
    (hbase : ∀ i, attributeBase o "remove" (X i).env (eval o (X i).env) = eval o (X i).env := by exact fun _ => rfl)
    (hfew : ∀ i, ((backTo pos (starEach [e] (X i).env)).all (fun x => !x.1) && (backToKw pos (keywordEach [] (X i).env)).all (fun x => x.1.isSome) && decide ([e].length + ([] : List Keyword).length + (if ([] : List Keyword).isEmpty then 0 else 1) < 30)) = true := by exact fun _ => rfl)
    (hline : (apos.endLine == pos.line) = true := by rfl) (hs : ∀ i, starEach [e] (X i).env = (false, eval e (X i).env) :: starEach [] (X i).env := by exact fun _ => rfl) (hplain : ∀ i, (backTo pos (starEach [] (X i).env)).any (·.1) = false := by exact fun _ => rfl) :
    EvJ X K E Γ R (.Call (.Attribute o "remove" apos) [e] [] pos) (R.set k (rRw l (qr.eraseIdx n)) ++ [rL r ds]) dN := by
  refine ev_mt F PySem.F.plainAttrs_list PySem.F.slot_list_remove PySem.F.type_list_remove ho (ar_cons ha ar_nil hs) ⟨rRemR K, fun j => by rw [← F.fK j]; exact mt_remR (by rw [F.fA j]; exact hr.units), fun Γ S σ H x q r => ?_, fun Γ S σ H x xs Q q r1 r2 k' => ?_⟩ hbase hfew hline hs hplain
  · cases (show x = .ref l from r)
    obtain ⟨O, h, g⟩ := q.res k hk
    exact .inl ⟨rfl, _, SqL.of (g _ _ h.main)⟩
  · cases (show x = .ref l from r1)
    obtain ⟨v, rfl, r3⟩ := all2_one r2
    cases (show v = .ref r from r3)
    obtain ⟨O, h, g⟩ := q.res k hk
    have hmem := List.mem_of_getElem? hn
    let D : Addr → PyData := fun a => match qr.find? fun x => decide (x.1 = a) with
      | some x => .list x.2
      | none => .none
    have hD : ∀ y ∈ qr, D y.1 = .list y.2 := fun y hy => by
      show (match qr.find? fun x => decide (x.1 = y.1) with | some x => PyData.list x.2 | none => .none) = _
      have hf : ∃ z, (qr.find? fun x => decide (x.1 = y.1)) = some z := by
        cases e : qr.find? fun x => decide (x.1 = y.1) with
        | some z => exact ⟨z, rfl⟩
        | none => have := List.find?_eq_none.mp e y hy; simp at this
      obtain ⟨z, hz⟩ := hf
      rw [hz]
      have h1 : z.1 = y.1 := by simpa using List.find?_some hz
      have h2 := List.mem_of_find?_eq_some hz
      have : z = y := by
        obtain ⟨i1, hi1⟩ := List.getElem?_of_mem h2
        obtain ⟨i2, hi2⟩ := List.getElem?_of_mem hy
        have := nd_at h.nd hi1 hi2 h1
        subst this
        rw [hi1] at hi2
        exact Option.some.inj hi2
      rw [this]
    refine ⟨l, r, qr.map Prod.fst, D, n, rfl, rfl, by rw [g _ _ h.main, List.map_map]; rfl, fun a ha => ?_, by rw [List.getElem?_map, hn]; rfl, fun m hm a ha => ?_, ?_⟩
    · obtain ⟨y, hy, rfl⟩ := List.mem_map.mp ha
      obtain ⟨us, u1, u2⟩ := h.rows y hy
      rw [hD y hy]
      refine ⟨.lst (SqL.of (g _ _ u1)) (daAll_dp (daAll_same q.sub u2)), ?_, hdep y hy⟩
      rw [PyData.plain]
      exact daAll_plain u2
    · rw [List.getElem?_map] at ha
      cases e : qr[m]? with
      | none => rw [e] at ha; cases ha
      | some y =>
        rw [e] at ha
        cases ha
        rw [hD y (List.mem_of_getElem? e), hD (r, ds) hmem]
        exact hno m hm y e
    · exact k' _ S _ (Same.refl _) (q.putM2 k hk fun O' h' hsm => rw_del2 hn h' hsm) rfl
end
/-! looks -/
theorem lookH_same {h : HS} {i : Nat} {r : RowS} {good : Bool} (e : good = r.well) : lookH h i r good = { h with rows := h.rows.set i { r with cnt := 0 } } := by
  unfold lookH looked2
  rw [if_pos e]
  show (if r.well = r.well then _ else _) = _
  rw [if_pos rfl]
theorem lookH_less {h : HS} {i : Nat} {r : RowS} {good : Bool} (e : ¬ good = r.well) (e2 : ¬ (if r.well then h.fall else h.rise) = r.cnt + 1) : lookH h i r good = { h with rows := h.rows.set i { r with cnt := r.cnt + 1 } } := by
  unfold lookH looked2
  rw [if_neg e, if_neg e2]
  show (if r.well = r.well then _ else _) = _
  rw [if_pos rfl]
theorem lookH_turn {h : HS} {i : Nat} {r : RowS} {good : Bool} (e : ¬ good = r.well) (e2 : (if r.well then h.fall else h.rise) = r.cnt + 1) : lookH h i r good = (if r.well then allMoveH { h with rows := h.rows.set i { r with well := !r.well, cnt := 0 }, log := h.log ++ [.tuple [.str (wdA (!r.well)), .str r.name]] } [r.name] else { h with rows := h.rows.set i { r with well := !r.well, cnt := 0 }, log := h.log ++ [.tuple [.str (wdA (!r.well)), .str r.name]] }) := by
  unfold lookH looked2
  rw [if_neg e, if_pos e2]
  show (if (!r.well) = r.well then _ else _) = _
  rw [if_neg (by cases r.well <;> simp)]
/-! the law's own rows -/
theorem mzip_at {qs : List Addr} {rows : List RowS} {n : Nat} {q : Addr} {r : RowS} (hq : qs[n]? = some q) (hr : rows[n]? = some r) : (qs.zip (rows.map mrowD))[n]? = some (q, mrowD r) := List.getElem?_zip_eq_some.mpr ⟨hq, by rw [List.getElem?_map, hr]; rfl⟩
theorem mR_set {b : HA} {h : HS} {n : Nat} {q : Addr} (hq : b.qs[n]? = some q) (r' : RowS) : (mR b h).set 1 (rRw b.rl ((b.qs.zip (h.rows.map mrowD)).set n (q, mrowD r'))) = mR b { h with rows := h.rows.set n r' } := by
  show [_, _, _, _, _] = [_, rRw b.rl (b.qs.zip ((h.rows.set n r').map mrowD)), _, _, _]
  rw [List.map_set, zip_set' hq]
  rfl
/-! evenings -/
theorem at_there (h : HS) (n : Str) : atH h [n] = thereH h n := by
  unfold atH thereH
  congr 1
  refine List.filter_congr fun x _ => ?_
  cases e : x.2 with
  | none => simp [someIn]
  | some m => simp [someIn]
theorem there_held (h : HS) (n : Str) : (thereH h n).length = heldH h n := by unfold thereH heldH; rw [List.length_map]
def goingQ (h : HS) (many : Int) (wh : Int) (lv : List (Addr × RowS)) : List Str := lv.flatMap fun x => cutD (thereH h x.2.name) (some (min ((thereH h x.2.name).length : Int) (capA many x.2.wt wh h.extra))) none
theorem going_eq {h : HS} {lv : List (Addr × RowS)} (hL : liveH h = lv.map (sxM h)) : goingH h = goingQ h (heldL' (liveH h)).sum ((liveH h).map fun x => x.2.2.1).sum lv := by
  unfold goingH goingP overL aboveL capsA
  have e1 : heldL' (liveH h) = lv.map fun x => ((heldH h x.2.name : Nat) : Int) := by rw [hL]; unfold heldL'; rw [List.map_map]; rfl
  have e2 : wtsL' (liveH h) = lv.map fun x => x.2.wt := by rw [hL]; unfold wtsL'; rw [List.map_map]; rfl
  have e3 : ((liveH h).map fun x => x.2.2.1).sum = (wtsL' (liveH h)).sum := rfl
  rw [e3]
  generalize (heldL' (liveH h)).sum = M
  generalize (wtsL' (liveH h)).sum = W
  rw [e1, e2, hL, List.map_map, List.zip_map', List.map_map, List.zip_map']
  unfold goingQ
  rw [List.flatMap_map]
  rw [List.flatMap_def, List.flatMap_def]
  refine congrArg List.flatten (List.map_congr_left fun x _ => ?_)
  show lastL (thereH h x.2.name) (max 0 ((heldH h x.2.name : Int) - capA M x.2.wt W h.extra)) = _
  unfold lastL
  rw [there_held]
  congr 2
  omega
theorem cutD_sub {α : Type} (l : List α) (lo hi : Option Int) : (cutD l lo hi).Sublist l := (List.take_sublist _ _).trans (List.drop_sublist _ _)
theorem going_nd {h : HS} (snd : (h.stand.map Prod.fst).Nodup) (M W : Int) : ∀ (lv : List (Addr × RowS)), (lv.map fun x => x.2.name).Nodup → (goingQ h M W lv).Nodup ∧ ∀ y ∈ goingQ h M W lv, ∃ x ∈ lv, (y, some x.2.name) ∈ h.stand
  | [], _ => ⟨List.nodup_nil, fun y hy => nomatch hy⟩
  | x :: lv, nd => by
    rw [List.map_cons, List.nodup_cons] at nd
    obtain ⟨a, c⟩ := going_nd snd M W lv nd.2
    have hth : ∀ y ∈ thereH h x.2.name, (y, some x.2.name) ∈ h.stand := fun y hy => by
      obtain ⟨z, hz, e⟩ := List.mem_map.mp hy
      obtain ⟨z1, z2⟩ := List.mem_filter.mp hz
      have z2 := of_decide_eq_true z2
      rw [← e, ← z2]
      exact z1
    have hsub := cutD_sub (thereH h x.2.name) (some (min ((thereH h x.2.name).length : Int) (capA M x.2.wt W h.extra))) none
    show (cutD _ _ _ ++ goingQ h M W lv).Nodup ∧ ∀ y ∈ cutD _ _ _ ++ goingQ h M W lv, _
    refine ⟨List.nodup_append.mpr ⟨(snd.sublist ((List.filter_sublist).map _)).sublist hsub, a, fun y hy z hz e => ?_⟩, fun y hy => ?_⟩
    · subst e
      have h1 := hth y (hsub.subset hy)
      obtain ⟨x2, hx2, h2⟩ := c y hz
      have l1 := lk_mem snd h1
      have l2 := lk_mem snd h2
      rw [l1] at l2
      have : x.2.name = x2.2.name := Option.some.inj (Option.some.inj l2)
      exact nd.1 (List.mem_map.mpr ⟨x2, hx2, this.symm⟩)
    · rcases List.mem_append.mp hy with z | z
      · exact ⟨x, List.mem_cons_self .., hth y (hsub.subset z)⟩
      · obtain ⟨x2, hx2, h2⟩ := c y z
        exact ⟨x2, List.mem_cons_of_mem _ hx2, h2⟩
theorem going_count {h : HS} (nd : (h.rows.map RowS.name).Nodup) (snd : (h.stand.map Prod.fst).Nodup) {lv : List (Addr × RowS)} (hL : liveH h = lv.map (sxM h)) (hsub : (lv.map fun x => x.2.name).Nodup) : (goingH h).length = (goersH h).length := by
  have e := going_eq hL
  obtain ⟨a, c⟩ := going_nd snd (heldL' (liveH h)).sum ((liveH h).map fun x => x.2.2.1).sum lv hsub
  rw [← e] at a c
  have h2 : (goersH h).Nodup := snd.sublist ((List.filter_sublist).map _)
  refine (perm_of_nodup a h2 fun y => ⟨fun hy => ?_, fun hy => ?_⟩).length_eq
  · obtain ⟨x, _, hx⟩ := c y hy
    exact List.mem_map.mpr ⟨_, List.mem_filter.mpr ⟨hx, decide_eq_true hy⟩, rfl⟩
  · obtain ⟨z, hz, e⟩ := List.mem_map.mp hy
    have := of_decide_eq_true (List.mem_filter.mp hz).2
    rw [← e]
    exact this
theorem evening_eq (h : HS) : eveningH h = moveH h (goersH h) := by
  unfold eveningH
  split
  · rename_i e
    have e1 : goingH h = [] := by unfold goingH; rw [e]; rfl
    have e2 : goersH h = [] := by unfold goersH; rw [e1]; simp
    rw [e2]
    have e3 : moveH h [] = if liveH h = [] then h else (([] : List ((Str × Option Str) × Str))).foldl movedStep h := by
      show (if liveH { h with stand := unset h.stand [] } = [] then _ else _) = _
      rfl
    rw [e3, if_pos e]
  · rfl
theorem eveningN_eq {h : HS} (hc : (goingH h).length = (goersH h).length) : eveningN h = (goingH h).length := by
  unfold eveningN
  split
  · rename_i e
    have e1 : goingH h = [] := by unfold goingH; rw [e]; rfl
    rw [e1]
    rfl
  · exact hc.symm
/-! who was there last -/
theorem lk_dr {β : Type} {x y : Str} (h : ¬ x = y) : ∀ {l : List (Str × β)}, lk (dr l y) x = lk l x
  | [] => rfl
  | (k, v) :: l => by
    unfold dr
    by_cases e : k = y
    · rw [List.filter_cons_of_neg (by simp [e]), lk_neg (fun z => h (z.symm.trans e))]
      exact lk_dr h
    · rw [List.filter_cons_of_pos (by simp [e])]
      by_cases e2 : k = x
      · rw [lk_pos e2, lk_pos e2]
      · rw [lk_neg e2, lk_neg e2]
        exact lk_dr h
theorem lk_drs {β : Type} {x : Str} : ∀ {xs : List Str} {l : List (Str × β)}, x ∉ xs → lk (xs.foldl dr l) x = lk l x
  | [], _, _ => rfl
  | y :: xs, l, h => by
    rw [List.mem_cons, not_or] at h
    show lk (xs.foldl dr (dr l y)) x = _
    rw [lk_drs (xs := xs) (l := dr l y) h.2, lk_dr h.1]
end SL

/-! deeds keep what always holds -/
namespace SL
open PySem PySem.Spec PyProof.Rows L2
section
variable {ι : Type} {X : ι → Cx} {K : PySem.W.Frag} {E : Ent} {B : Hp} {Γ Γ' : Slots} {R R' R1 R2 : List Res} {a b e o : Expr} {es : List Expr} {pos p' : Pos} {C : Addr} {s s1 s2 : Sl} {P : Program} {w : World} {mg : Str → Option Value} {base : Heap} {A : Around} {N ps : List Str}
/-- f(e, ..), a builtin, of something new that is let go of -/
theorem ev_callBs {ν : Type} {Rm : ν → List Res} {ss : ν → List Sl} {id : String} {f : Str} (F : Fam X P w K mg base A N) (hm : mg f = none) (hv : bootBuiltins f = some (.builtin id)) (ha : ArN X K E Γ R (e :: es) Rm ss) (hc : ∀ n, ClJ X K E (.builtin id) (Rm n) (ss n) s) (hsub : ∀ n, List.Sublist R2 (Rm n))
    (hg : ∀ i, Gl (X i) f := by exact fun _ => rfl) (he : ∀ i, starEach (e :: es) (X i).env = (false, eval e (X i).env) :: starEach es (X i).env := by exact fun _ => rfl) (hpl : ∀ i, (backTo pos (starEach es (X i).env)).any (·.1) = false := by exact fun _ => rfl) (hn : f ≠ "__name__" := by decide) (hdb : (f == ("__debug__" : Str)) = false := by decide) :
    EvJ X K E Γ R (.Call (.Name f p') (e :: es) [] pos) R2 s := by
  obtain ⟨t, a1, a2⟩ := ha
  have hc' := fun n => Classical.choose_spec (hc n)
  exact ⟨tCB (fun vs H Q => ∃ n, Classical.choose (hc n) vs H Q) t, fun i => pe_callB (fun pins s σ H xs us Q I r ⟨n, h⟩ => (hc' n).1 i pins s σ H xs us Q I r h) (hg i) (by rw [F.fmg i]; exact hm) hv (a1 i) hn hdb (he i) (hpl i), fun S σ H Q q k => a2 S σ H _ q fun n vs S1 H1 e1 q1 r1 => ⟨n, (hc' n).2 Γ S1 σ H1 vs Q q1 r1 fun v S2 H2 e2 q2 r2 => k v S2 H2 (e1.trans e2) (q2.sub' (hsub n)) r2⟩⟩
end
theorem move_same (h : HS) (xs : List Str) : SameR (moveH h xs) h := by
  have s1 : SameR { h with stand := unset h.stand xs } h := ⟨⟨rfl, rfl, rfl⟩, rfl, rfl⟩
  unfold moveH
  dsimp only
  split
  · exact (lost_same _ _).trans s1
  · exact (moved_same _ _).trans s1
theorem evening_same (h : HS) : SameR (eveningH h) h := by rw [evening_eq]; exact move_same _ _
theorem allMove_same (h : HS) (ns : List Str) : SameR (allMoveH h ns) h := move_same _ _
def keyOf : Deed → Str
  | .put n _ _ => n
  | .weigh n _ => n
  | .drain n => n
  | .fill n => n
  | .out n => n
  | .look n _ => n
  | .falls z => z
  | .ask a _ => a
  | .fin a => a
  | .evening => "evening"
theorem key_at (d : Deed) : atI d.d (1 % (d.d.length : Int)) = some (.str (keyOf d)) := by
  cases d <;> first | exact atI1 | exact atI0
theorem find_some {qs : List Addr} {rows : List RowS} {n : Nat} {r : RowS} {k : Str} (hl : qs.length = rows.length) (nd : (rows.map RowS.name).Nodup) (h : rowAt rows k = some (n, r)) : ∃ q, qs[n]? = some q ∧ ((qs.zip rows).filter fun x => decide (x.2.name = k)) = [(q, r)] := by
  obtain ⟨h1, h2⟩ := rowAt_some h
  have hn := (List.getElem?_eq_some_iff.mp h1).1
  refine ⟨qs[n]'(by omega), List.getElem?_eq_getElem _, ?_⟩
  clear h
  induction rows generalizing qs n with
  | nil => simp at hn
  | cons r0 rows ih =>
    cases qs with
    | nil => simp at hl
    | cons q0 qs =>
      have nd2 := nd
      rw [List.map_cons, List.nodup_cons] at nd2
      cases n with
      | zero =>
        simp at h1
        subst h1
        rw [List.zip_cons_cons, List.filter_cons_of_pos (by simp [h2])]
        refine congrArg _ (List.filter_eq_nil_iff.mpr fun x hx e => ?_)
        have e := of_decide_eq_true e
        exact nd2.1 (List.mem_map.mpr ⟨x.2, (List.of_mem_zip hx).2, e.trans h2.symm⟩)
      | succ n =>
        have h1' : rows[n]? = some r := by simpa using h1
        have hne : ¬ r0.name = k := fun e => nd2.1 (List.mem_map.mpr ⟨r, List.mem_of_getElem? h1', h2.trans e.symm⟩)
        rw [List.zip_cons_cons, List.filter_cons_of_neg (by simp [hne])]
        exact ih (by simpa using hl) nd2.2 h1' (by simpa using hn)
theorem find_none {qs : List Addr} {rows : List RowS} {k : Str} (h : rowAt rows k = none) : ((qs.zip rows).filter fun x => decide (x.2.name = k)) = [] := by
  refine List.filter_eq_nil_iff.mpr fun x hx e => ?_
  exact rowAt_none h (List.mem_map.mpr ⟨x.2, (List.of_mem_zip hx).2, of_decide_eq_true e⟩)
section
variable {U : List Str} {h : HS} {k : Nat}
theorem HInv.rowOk (i : HInv U h k) {n : Nat} {r : RowS} (hr : h.rows[n]? = some r) : (r.name ∈ U ∧ r.zone ∈ U ∧ 1 ≤ r.wt ∧ r.wt ≤ 20) ∧ 0 ≤ r.cnt ∧ r.cnt ≤ k := i.rows r (List.mem_of_getElem? hr)
theorem HInv.setR (i : HInv U h k) {n : Nat} {r r' : RowS} (hr : h.rows[n]? = some r) (e : r'.name = r.name) (hok : (r'.zone ∈ U ∧ 1 ≤ r'.wt ∧ r'.wt ≤ 20) ∧ 0 ≤ r'.cnt ∧ r'.cnt ≤ (k + 1 : Nat)) {l : List PyData} (hl : l.length ≤ 81 * k + 40) (he : ∀ e ∈ l, ShD 60 e ∧ dep 2 e) : HInv U { h with rows := h.rows.set n r', log := l } (k + 1) := by
  refine ⟨fun x hx => ?_, i.stand, i.last, by show l.length ≤ _; omega, he, i.size, i.extra, ?_, i.snd, i.lnd⟩
  · rcases List.mem_or_eq_of_mem_set hx with z | z
    · obtain ⟨a, b, c⟩ := i.rows x z
      exact ⟨a, b, by push_cast; omega⟩
    · rw [z]
      exact ⟨⟨by rw [e]; exact (i.rowOk hr).1.1, hok.1⟩, hok.2⟩
  · show ((h.rows.set n r').map RowS.name).Nodup
    rw [List.map_set, e]
    have : (h.rows.map RowS.name).set n r.name = h.rows.map RowS.name := by
      refine List.ext_getElem? fun j => ?_
      by_cases z : n = j
      · subst z
        have hl := (List.getElem?_eq_some_iff.mp hr).1
        rw [List.getElem?_set_self (by rw [List.length_map]; exact hl), List.getElem?_map, hr]
        rfl
      · rw [List.getElem?_set_ne z]
    rw [this]
    exact i.nd
theorem HInv.addE (i : HInv U h k) {e : PyData} (he : ShD 60 e ∧ dep 2 e) : (h.log ++ [e]).length ≤ 81 * k + 40 ∧ ∀ x ∈ h.log ++ [e], ShD 60 x ∧ dep 2 x := by
  refine ⟨?_, ents_app i.ents he⟩
  have := i.logs
  rw [List.length_append]
  simp
  omega
theorem mem_lk {β : Type} {x : Str} {v : β} : ∀ {l : List (Str × β)}, lk l x = some v → (x, v) ∈ l
  | [], h => nomatch h
  | (k, u) :: l, h => by
    by_cases e : k = x
    · rw [lk_pos e] at h
      cases h
      rw [e]
      exact List.mem_cons_self ..
    · rw [lk_neg e] at h
      exact List.mem_cons_of_mem _ (mem_lk h)
theorem led_ok (i : HInv U h k) (u : UOk U) (hne : liveH h ≠ []) (a z : Str) : ∃ n ∈ U, ledH h a z = some n := by
  have hx := sx_of i u
  have hl : (serversH h).length ≤ 100 := by
    have := i.few u
    have e : (serversH h).length = h.rows.length := List.length_map ..
    omega
  unfold ledH
  split
  · rename_i e
    cases e2 : lk h.last a with
    | none => rw [e2] at e; exact nomatch e
    | some n => exact ⟨n, (i.last _ (mem_lk e2)).2, rfl⟩
  · obtain ⟨p, hp⟩ := List.exists_mem_of_ne_nil _ hne
    obtain ⟨h1, h2⟩ := List.mem_filter.mp hp
    obtain ⟨q, hq, e⟩ := chosen_some (asker := a) (zone := z) (size := h.size) hx hl i.extra.1 h1 h2
    obtain ⟨r, hr, e2⟩ := List.mem_map.mp (free_sub hq)
    refine ⟨q.1, ?_, e⟩
    rw [← e2]
    exact (i.rows r hr).1.1
theorem HInv.allMove (i : HInv U h k) (u : UOk U) (ns : List Str) (hl : h.log.length + 40 ≤ 81 * k) : HInv U (allMoveH h ns) k := allMove_inv i u ns (Nat.le_refl _) hl
/-- behind a deed -/
theorem due_inv (i : HInv U h k) (u : UOk U) {d : Deed} (ok : DOk U d) : HInv U (dueH h d) (k + 1) := by
  have i1 : HInv U h (k + 1) := i.mono (Nat.le_succ k)
  have hlog := i.logs
  cases d with
  | put n z wt =>
    obtain ⟨o1, o2, o3⟩ := ok
    show HInv U (match rowAt h.rows n with | some _ => h | none => putH h n z wt) (k + 1)
    cases e : rowAt h.rows n with
    | some p => exact i1
    | none =>
      obtain ⟨l1, l2⟩ := i.addE (e := .tuple [.str "put", .str n, .str z, .int wt]) ⟨sh_e4 (sh_w (by decide +kernel) (by decide +kernel)) (sh_nm (u.nm _ o1)) (sh_nm (u.nm _ o2)) (sh_wt o3), dep_tup (depA_cons dep_str (depA_cons dep_str (depA_cons dep_str (depA_cons dep_int depA_nil))))⟩
      refine ⟨fun r hr => ?_, i.stand, i.last, by show (h.log ++ [_]).length ≤ _; omega, l2, i.size, i.extra, ?_, i.snd, i.lnd⟩
      · rcases List.mem_append.mp hr with z' | z'
        · exact i1.rows r z'
        · rw [List.mem_singleton.mp z']
          exact ⟨⟨o1, o2, o3⟩, Int.le_refl _, Int.natCast_nonneg _⟩
      · show ((h.rows ++ [_]).map RowS.name).Nodup
        rw [List.map_append]
        exact List.nodup_append.mpr ⟨i.nd, List.nodup_cons.mpr ⟨by simp, List.nodup_nil⟩, fun a ha b hb e2 => rowAt_none e (by
          have hb' : b ∈ [n] := hb
          rw [List.mem_singleton.mp hb'] at e2
          rw [← e2]
          exact ha)⟩
  | weigh n wt =>
    obtain ⟨o1, o2⟩ := ok
    show HInv U (match rowAt h.rows n with | some p => weighH h p.1 p.2 wt | none => h) (k + 1)
    cases e : rowAt h.rows n with
    | none => exact i1
    | some p =>
      obtain ⟨j, r⟩ := p
      obtain ⟨h1, h2⟩ := rowAt_some e
      obtain ⟨⟨a1, a2, a3⟩, a4, a5⟩ := i.rowOk h1
      obtain ⟨l1, l2⟩ := i.addE (e := .tuple [.str "weigh", .str r.name, .int wt]) ⟨sh_e3 (sh_w (by decide +kernel) (by decide +kernel)) (sh_nm (u.nm _ a1)) (sh_wt o2), dep_tup (depA_cons dep_str (depA_cons dep_str (depA_cons dep_int depA_nil)))⟩
      exact i.setR (r' := { r with wt := wt }) h1 rfl ⟨⟨a2, o2⟩, a4, by show r.cnt ≤ _; push_cast; omega⟩ l1 l2
  | drain n =>
    show HInv U (match rowAt h.rows n with | some p => drainH h p.1 p.2 | none => h) (k + 1)
    cases e : rowAt h.rows n with
    | none => exact i1
    | some p =>
      obtain ⟨j, r⟩ := p
      obtain ⟨h1, h2⟩ := rowAt_some e
      obtain ⟨⟨a1, a2, a3⟩, a4, a5⟩ := i.rowOk h1
      obtain ⟨l1, l2⟩ := i.addE (e := .tuple [.str "drain", .str r.name]) ⟨sh_e2 (sh_w (by decide +kernel) (by decide +kernel)) (sh_nm (u.nm _ a1)), dep_tup (depA_cons dep_str (depA_cons dep_str depA_nil))⟩
      show HInv U (drainH h j r) (k + 1)
      unfold drainH
      split
      · exact i1
      · exact i.setR (r' := { r with dr := true }) h1 rfl ⟨⟨a2, a3⟩, a4, by show r.cnt ≤ _; push_cast; omega⟩ l1 l2
  | fill n =>
    show HInv U (match rowAt h.rows n with | some p => fillH h p.1 p.2 | none => h) (k + 1)
    cases e : rowAt h.rows n with
    | none => exact i1
    | some p =>
      obtain ⟨j, r⟩ := p
      obtain ⟨h1, h2⟩ := rowAt_some e
      obtain ⟨⟨a1, a2, a3⟩, a4, a5⟩ := i.rowOk h1
      obtain ⟨l1, l2⟩ := i.addE (e := .tuple [.str "fill", .str r.name]) ⟨sh_e2 (sh_w (by decide +kernel) (by decide +kernel)) (sh_nm (u.nm _ a1)), dep_tup (depA_cons dep_str (depA_cons dep_str depA_nil))⟩
      show HInv U (fillH h j r) (k + 1)
      unfold fillH
      split
      · exact i.setR (r' := { r with dr := false }) h1 rfl ⟨⟨a2, a3⟩, a4, by show r.cnt ≤ _; push_cast; omega⟩ l1 l2
      · exact i1
  | out n =>
    show HInv U (match rowAt h.rows n with | some p => outH h p.1 p.2 | none => h) (k + 1)
    cases e : rowAt h.rows n with
    | none => exact i1
    | some p =>
      obtain ⟨j, r⟩ := p
      obtain ⟨h1, h2⟩ := rowAt_some e
      obtain ⟨⟨a1, a2, a3⟩, a4, a5⟩ := i.rowOk h1
      obtain ⟨l1, l2⟩ := i.addE (e := .tuple [.str "out", .str r.name]) ⟨sh_e2 (sh_w (by decide +kernel) (by decide +kernel)) (sh_nm (u.nm _ a1)), dep_tup (depA_cons dep_str (depA_cons dep_str depA_nil))⟩
      have hs := List.eraseIdx_sublist h.rows j
      have i2 : HInv U (outH0 h j r) (k + 1) := ⟨fun x hx => i1.rows x (hs.subset hx), i.stand, fun x hx => i.last x ((drs_sub _ _).subset hx), by show (h.log ++ [_]).length ≤ _; omega, l2, i.size, i.extra, i.nd.sublist (hs.map _), i.snd, i.lnd.sublist ((drs_sub _ _).map _)⟩
      exact i2.allMove u _ (by show (h.log ++ [_]).length + 40 ≤ _; rw [List.length_append]; simp; omega)
  | look n g =>
    show HInv U (match rowAt h.rows n with | some p => lookH h p.1 p.2 g | none => h) (k + 1)
    cases e : rowAt h.rows n with
    | none => exact i1
    | some p =>
      obtain ⟨j, r⟩ := p
      obtain ⟨h1, h2⟩ := rowAt_some e
      obtain ⟨⟨a1, a2, a3⟩, a4, a5⟩ := i.rowOk h1
      show HInv U (lookH h j r g) (k + 1)
      by_cases c1 : g = r.well
      · rw [lookH_same c1]
        exact i.setR (r' := { r with cnt := 0 }) h1 rfl ⟨⟨a2, a3⟩, Int.le_refl _, Int.natCast_nonneg _⟩ (by omega) i.ents
      · by_cases c2 : (if r.well then h.fall else h.rise) = r.cnt + 1
        · obtain ⟨l1, l2⟩ := i.addE (e := .tuple [.str (wdA (!r.well)), .str r.name]) ⟨sh_e2 (by cases r.well <;> exact sh_w (by decide +kernel) (by decide +kernel)) (sh_nm (u.nm _ a1)), dep_tup (depA_cons dep_str (depA_cons dep_str depA_nil))⟩
          rw [lookH_turn c1 c2]
          have i2 := i.setR (r' := { r with well := !r.well, cnt := 0 }) h1 rfl ⟨⟨a2, a3⟩, Int.le_refl _, Int.natCast_nonneg _⟩ l1 l2
          split
          · exact i2.allMove u _ (by show (h.log ++ [_]).length + 40 ≤ _; rw [List.length_append]; simp; omega)
          · exact i2
        · rw [lookH_less c1 c2]
          exact i.setR (r' := { r with cnt := r.cnt + 1 }) h1 rfl ⟨⟨a2, a3⟩, by show 0 ≤ r.cnt + 1; omega, by show r.cnt + 1 ≤ _; push_cast; omega⟩ (by omega) i.ents
  | falls z =>
    show HInv U (if z ∈ h.rows.map RowS.zone then fallsH h z else h) (k + 1)
    split
    · have hfl : (fallenL h.rows z).length ≤ 40 := by unfold fallenL; rw [List.length_map]; exact Nat.le_trans (List.length_filter_le _ _) (i.few u)
      have hl2 : (h.log ++ (fallenL h.rows z).map illD).length ≤ 81 * k + 40 := by rw [List.length_append, List.length_map]; omega
      have i2 : HInv U (fallsH0 h z) (k + 1) := by
        refine ⟨fun x hx => ?_, i.stand, i.last, by show (h.log ++ _).length ≤ _; omega, fun e he => ?_, i.size, i.extra, ?_, i.snd, i.lnd⟩
        · obtain ⟨y, hy, rfl⟩ := List.mem_map.mp hx
          obtain ⟨a, b, c⟩ := i1.rows y hy
          refine ⟨⟨by rw [ill_name]; exact a.1, by rw [ill_zone.1]; exact a.2.1, by rw [ill_zone.2]; exact a.2.2⟩, ?_⟩
          unfold illR
          split
          · exact ⟨Int.le_refl _, Int.natCast_nonneg _⟩
          · exact ⟨b, c⟩
        · rcases List.mem_append.mp he with q | q
          · exact i.ents e q
          · obtain ⟨n, hn, rfl⟩ := List.mem_map.mp q
            obtain ⟨r, hr, rfl⟩ := List.mem_map.mp hn
            exact ⟨sh_e2 (sh_w (by decide +kernel) (by decide +kernel)) (sh_nm (u.nm _ (i.rows r (List.mem_filter.mp hr).1).1.1)), dep_tup (depA_cons dep_str (depA_cons dep_str depA_nil))⟩
        · show ((h.rows.map (illR z)).map RowS.name).Nodup
          rw [List.map_map]
          have : (RowS.name ∘ illR z) = RowS.name := funext fun r => ill_name
          rw [this]
          exact i.nd
      exact i2.allMove u _ (by show (h.log ++ _).length + 40 ≤ _; omega)
    · exact i1
  | ask a z =>
    obtain ⟨o1, o2⟩ := ok
    show HInv U (match lk h.stand a with | some _ => h | none => if liveH h = [] then h else askH h a z) (k + 1)
    cases e : lk h.stand a with
    | some v => exact i1
    | none =>
      dsimp only
      split
      · exact i1
      · rename_i hne
        obtain ⟨n, hn, el⟩ := led_ok i u hne a z
        obtain ⟨l1, l2⟩ := i.addE (e := .tuple [.str "open", .str a, oD (ledH h a z)]) ⟨sh_e3 (sh_w (by decide +kernel) (by decide +kernel)) (sh_nm (u.nm _ o1)) (by rw [el]; exact sh_nm (u.nm _ hn)), dep_tup (depA_cons dep_str (depA_cons dep_str (depA_cons (dep_oD _) depA_nil)))⟩
        refine ⟨i1.rows, fun x hx => ?_, i.last, by show (h.log ++ [_]).length ≤ _; omega, l2, i.size, i.extra, i.nd, pt_nd i.snd, i.lnd⟩
        rcases pt_mem (show x ∈ pt h.stand a (ledH h a z) from hx) with q | ⟨q, _⟩
        · rw [q]; exact ⟨o1, n, el, hn⟩
        · exact i.stand x q
  | fin a =>
    have o1 : a ∈ U := ok
    show HInv U (match lk h.stand a with | some (some n) => endH h a n | _ => h) (k + 1)
    cases e : lk h.stand a with
    | none => exact i1
    | some v =>
      cases v with
      | none => exact i1
      | some n =>
        obtain ⟨_, m, hm, hmu⟩ := i.stand _ (mem_lk e)
        cases hm
        obtain ⟨l1, l2⟩ := i.addE (e := .tuple [.str "end", .str a, .str n]) ⟨sh_e3 (sh_w (by decide +kernel) (by decide +kernel)) (sh_nm (u.nm _ o1)) (sh_nm (u.nm _ hmu)), dep_tup (depA_cons dep_str (depA_cons dep_str (depA_cons dep_str depA_nil)))⟩
        refine ⟨i1.rows, fun x hx => i.stand x (dr_mem (show x ∈ dr h.stand a from hx)).1, fun x hx => ?_, by show (h.log ++ [_]).length ≤ _; omega, l2, i.size, i.extra, i.nd, dr_nd i.snd, pt_nd i.lnd⟩
        rcases pt_mem (show x ∈ pt h.last a n from hx) with q | ⟨q, _⟩
        · rw [q]; exact ⟨o1, hmu⟩
        · exact i.last x q
  | evening =>
    show HInv U (eveningH h) (k + 1)
    rw [evening_eq]
    have n1 : (goersH h).Nodup := i.snd.sublist ((List.filter_sublist).map Prod.fst)
    have n2 : ∀ x ∈ goersH h, x ∈ h.stand.map Prod.fst := fun x hx => by
      obtain ⟨y, hy, e⟩ := List.mem_map.mp hx
      exact List.mem_map.mpr ⟨y, (List.mem_filter.mp hy).1, e⟩
    have n3 : (goersH h).length ≤ h.stand.length := by unfold goersH; rw [List.length_map]; exact List.length_filter_le _ _
    have n4 := i.asks u
    obtain ⟨a, b, c⟩ := move_mid i u n1 n2
    exact i.of a b (Nat.le_succ k) (by omega)
end
end SL

/-! while an exception is handled: a list walked to its end, sum([int(x) for x in xs]) -/
namespace SL
open PySem PySem.Spec PyProof.Rows L2 HotX
section
variable {prog : Program} {w : World} {A : Around} {E : Value → Shared → Prop} {s : Shared} {x1 : Addr}
/-- a list's iterator at the end, within an except suite -/
theorem next_end_hot {I l : Addr} {i : Nat} {its : Array Value} {Q : Option Value → Shared → Prop} (hot : HotAt A x1 s.heap) (hne : x1 ≠ I) (hI : s.heap.IsListIter I l i) (hl : s.heap.IsList l its) (hi : its[i]? = none)
    (k : ∀ h', (∀ b o, b ≠ I → s.heap.get? b = some o → h'.get? b = some o) → Q none { s with heap := h' }) : wpAny (model prog w) A (pyNext (.ref I)) Q E s := by
  obtain ⟨hh, o1, vs1, h1, d1, c1⟩ := hot
  have hT := hI.typeIs
  obtain ⟨oI, gI, cI, dI⟩ := hI
  obtain ⟨oL, gL, cL, nL, dL⟩ := hl
  unfold pyNext; refine wpAny_bind (wpAny_attempt (wpAny_callSpecial?_slot (name := Str.ofString "__next__") hT slot_listiter_next (wpAny_call_entry slot_listiter_next hT entry_listiter_next ?_ (args_listiter_next _))))
  show wpAny _ _ (field (Value.ref I) 0 >>= _) _ _ s
  refine wpAny_bind (wpAny_field gI dI (x := Value.ref l) rfl ?_)
  show wpAny _ _ (ite ((Value.ref l == Value.none) = true) _ _) _ _ s
  rw [if_neg (show (Value.ref l == Value.none) ≠ true from fun z => Bool.false_ne_true z)]
  show wpAny _ _ (field (Value.ref I) 1 >>= _) _ _ s
  refine wpAny_bind (wpAny_field gI dI (x := Value.int i 0) rfl ?_)
  show wpAny _ _ (seqItems? (Value.ref l) >>= _) _ _ s
  refine wpAny_bind (wpAny_seqItems gL dL ?_); simp only [Int.toNat_natCast, hi]
  refine wpAny_bind (wpAny_rule (wpAny_bind (wpAny_setField gI dI (by simp) ?_)))
  show wpAny _ _ (newExc (Value.type "StopIteration") [] >>= _) _ _ _
  refine wpAny_bind ?_; simp only [newExc, newTuple]
  refine wpAny_bind (wpAny_newObj_type ?_ (by size_fits)); refine wpAny_bind (m := firstArgMember _ _) (wpAny_of_eq (a := Value.none) (by first | rfl | (simp only [firstArgMember]; rfl)) ?_)
  refine wpAny_newObj_type ?_ (by size_fits)
  have up : ∀ b o, b ≠ I → s.heap.get? b = some o → (s.heap.update I (Obj.mapFields (·.setIfInBounds 0 Value.none))).get? b = some o := fun b o hb e => by rw [Heap.get?_update_other _ _ (fun z => hb z.symm)]; exact e
  refine raiseNew_hot ⟨hh, o1, vs1, Heap.get?_push_of_some _ (Heap.get?_push_of_some _ (up _ _ hne h1)), d1, c1⟩ (Nat.ne_of_lt (Heap.lt_size (Heap.get?_push_of_some _ (up _ _ hne h1)))) (Heap.get?_push_size _ rfl) rfl (by first | (simp; done) | (simp; omega) | (simp only [Array.size_append]; simp; omega)) ?_
  refine wpAny_bind (wpAny_isInstance (T := "StopIteration") (b := true) ⟨_, Heap.get?_update_self _ (Heap.get?_push_size _ rfl) rfl, rfl⟩ isSubtype_stop ?_)
  refine wpAny_pure (k _ fun b o hb e => ?_)
  have e2 := Heap.get?_push_of_some { cls := Value.type "tuple", data := .seq ([] : List Value).toArray } (up b o hb e)
  rw [Heap.get?_update_other _ _ (Nat.ne_of_gt (Heap.lt_size e2))]
  exact Heap.get?_push_of_some _ e2
theorem hot_kept {h h' : Heap} (c : HotAt A x1 h) (k : ∀ o, h.get? x1 = some o → h'.get? x1 = some o) : HotAt A x1 h' :=
  let ⟨hh, o, vs, h1, r⟩ := c; ⟨hh, o, vs, k _ h1, r⟩
theorem walks_hot (I l : Addr) (hl : l ≠ I) (hx : x1 ≠ I) (its : Array Value) :
    Walks prog w A I [I, l, x1] [I] its.size (fun i v => its[i]? = some v) (fun i h => h.IsListIter I l i ∧ h.IsList l its ∧ HotAt A x1 h) where
  sub := fun b hb => by simp at hb; simp [hb]
  frame := fun _ _ _ st k => ⟨st.1.at fun o e => k I (by simp) o e, st.2.1.at fun o e => k l (by simp) o e, hot_kept st.2.2 fun o e => k x1 (by simp) o e⟩
  item := fun i s Q E hi st k => by
    refine wpAny_pyNext_list_item st.1 st.2.1 (x := its[i]) (by simp [hi]) fun h' st' sb => ?_
    exact k _ h' s.toks (by simp [hi]) ⟨st', st.2.1.extBut sb.extBut hl, hot_kept st.2.2 fun o e => sb.extBut _ o hx e⟩ fun b o hb e => sb.extBut b o (fun z => hb (by simp [z])) e
  done := fun s Q E st k => next_end_hot st.2.2 hx st.1 st.2.1 (by simp) fun h' kk => k h' s.toks fun b o hb e => kk b o (fun z => hb (by simp [z])) e
  self := fun _ _ _ _ st k => wpAny_pyIter_listiter st.1 k
/-- sum(xs), xs a list of ints -/
theorem sum_hot {l : Addr} {xs : Array (Int × Tok)} {Q : Value → Shared → Prop} (hot : HotAt A x1 s.heap) (hl : s.heap.IsList l (intItems xs))
    (k : ∀ h' tk t', (∀ b o, s.heap.get? b = some o → h'.get? b = some o) → Q (.int (preSum (numAt xs) xs.size) t') { s with heap := h', toks := tk }) : wpAny (model prog w) A (call (.builtin "sum") [.ref l]) Q E s := by
  have hlt : x1 < s.heap.objs.size := by obtain ⟨_, _, _, e, _⟩ := hot; exact Heap.lt_size e
  refine call_sum_walkG (iter_intList hl fun s2 e st hfp hlI => ?_)
  subst e
  have hot2 : HotAt A.in1 x1 (s.heap.push { cls := .type "list_iterator", data := .fields #[.ref l, .int 0 0] }) := hot_kept (A := A.in1) (show HotAt A.in1 x1 s.heap from hot) fun o e => Heap.get?_push_of_some _ e
  refine ⟨_, _, _, _, _, _, numAt xs, rfl, walks_hot (A := A.in1) (x1 := x1) _ l hlI (Nat.ne_of_lt hlt) (intItems xs), ⟨st.1, st.2, hot2⟩, fun b hb => ?_, (fun _ _ => intItems_at), fun h' tk t' hk => ?_⟩
  · rcases List.mem_cons.mp hb with z | hb
    · exact hfp b (by simp [z])
    · rcases List.mem_cons.mp hb with z | hb
      · exact hfp b (by simp [z])
      · have : b = x1 := by simpa using hb
        rw [this]
        show x1 < (s.heap.push _).objs.size
        rw [Heap.size_push]
        exact Nat.lt_succ_of_lt hlt
  · have := k h' tk t' fun b o e => hk b o (fun z => absurd (Heap.lt_size e) (by rw [show b = s.heap.objs.size by simpa using z]; exact Nat.lt_irrefl _)) (Heap.get?_push_of_some _ e)
    simpa [intItems] using this
theorem ints_are : ∀ {vs ys : List Value} {bs : List Bool}, vs = bs.map Value.bool → Paired (fun v y => ∃ (b : Bool) (t : Tok), v = Value.bool b ∧ y = Value.int (if b then 1 else 0) t) vs ys → IntsAre ys (bs.map fun b => if b then (1 : Int) else 0)
  | [], _, [], _, .nil => .nil
  | v :: vs, y :: ys, b :: bs, e, .cons h r => by
    obtain ⟨b', t, e1, e2⟩ := h
    have e : v :: vs = Value.bool b :: bs.map Value.bool := e
    injection e with e3 e4
    rw [e3] at e1
    cases e1
    subst e2
    exact .cons _ t (ints_are e4 r)
theorem vals_bl : ∀ {bs : List Bool} {us : List Value}, Vals (bs.map V.bl) us → us = bs.map Value.bool
  | [], _, .nil => rfl
  | b :: bs, _, .cons h r => by rw [show _ = Value.bool b from h, vals_bl r]; rfl
end
section
variable {X : Cx}
/-- sum([int(x) for x in xs]), xs a list of truths, within an except suite -/
theorem pe_sumHot {e : Expr} {te : TE} {x : Str} {scope : Scope} {p p1 p2 p3 px lp pos : Pos} (hot : L2H.HotC X) (he : PE X e te) (hgs : Gl X "sum") (hms : X.mg "sum" = none) (hmi : X.mg "int" = none)
    (hfr : ∀ y ∈ scope.names, y.2 ≠ .free) (hce : ∀ y ∈ scope.names, y.2 ≠ .cell) (hki : scope.kind = .function) (hna : ∀ y ∈ scope.names, y.2 = .local → scope.names.lookup y.1 = some .local) (hx : scope.names.lookup x = some .local) (hi : scope.names.lookup ("int" : Str) = some .globalImplicit)
    (hst : starEach [.ListComp (.Call (.Name "int" p1) [.Name x p2] [] p3) [⟨.Name x px, e, [], 0⟩] scope lp] X.env = (false, eval (.ListComp (.Call (.Name "int" p1) [.Name x p2] [] p3) [⟨.Name x px, e, [], 0⟩] scope lp) X.env) :: starEach [] X.env)
    (hpl : (backTo pos (starEach [] X.env)).any (·.1) = false) (hs : ∀ x, foldedSetIterable e X.env x = pure x) (hdb : (x == ("__debug__" : Str)) = false) :
    PE X (.Call (.Name "sum" p) [.ListComp (.Call (.Name "int" p1) [.Name x p2] [] p3) [⟨.Name x px, e, [], 0⟩] scope lp] [] pos) (fun σ H Q => te σ H fun v H1 => ∃ (a : Addr) (bs : List Bool), v = .ref a ∧ H1 a = some (.lst (bs.map V.bl)) ∧ Q (.int ((bs.map fun b => if b then (1 : Int) else 0).sum)) H1) := by
  refine ⟨fun pins s σ H Q I h => ?_⟩
  refine wpAny_Call_Name_kw (ld_blt I hgs hms boot_sum ?_)
  refine PyProof.Rows.callWith_builtin1 ?_ hst hpl
  rw [hst]
  show wpAny _ _ (spliced ((false, eval (.ListComp (.Call (.Name "int" p1) [.Name x p2] [] p3) [⟨.Name x px, e, [], 0⟩] scope lp) X.env) :: backTo pos (starEach [] X.env))) _ _ s
  refine Calls.spliced_cons (wpAny_ListComp_walk (fun _ => true) (fun v y => ∃ (b : Bool) (t : Tok), v = Value.bool b ∧ y = Value.int (if b then 1 else 0) t) hfr hce hki hna hx (thn (he.run pins s σ H _ I h) fun u s1 hh => ?_) hs)
  obtain ⟨v, H1, I1, r1, a, bs, ev, hH, q⟩ := hh
  subst ev
  obtain rfl : u = Value.ref a := r1
  obtain ⟨its, rv, pl, hz⟩ := I1.list (SqL.of hH)
  obtain ⟨x1, hot1⟩ := hot.at I1
  have eits := vals_bl rv
  have hlt1 : x1 < s1.heap.objs.size := by obtain ⟨_, _, _, e, _⟩ := hot1; exact Heap.lt_size e
  have hla : a < s1.heap.objs.size := by obtain ⟨_, e, _⟩ := pl.isList; exact Heap.lt_size e
  obtain ⟨mb, b1, b2⟩ := I1.mod.blt
  have kp : ∀ b o, s1.heap.get? b = some o → (s1.heap.push { cls := .type "list_iterator", data := .fields #[.ref a, .int 0 0] }).get? b = some o ∧ b ≠ s1.heap.objs.size := fun b o e => ⟨Heap.get?_push_of_some _ e, Nat.ne_of_lt (Heap.lt_size e)⟩
  refine wpAny_pyIter_list pl.isList ⟨s1.heap.objs.size, [s1.heap.objs.size, a, x1], [s1.heap.objs.size], its.toArray.size, _, _, rfl, walks_hot (x1 := x1) _ a (Nat.ne_of_lt hla) (Nat.ne_of_lt hlt1) its.toArray, ?_, ⟨⟨_, Heap.get?_push_size _ rfl, rfl, rfl⟩, pl.isList.push _, hot_kept hot1 fun o e => (kp _ o e).1⟩, fun b hb => ?_, ⟨?_, ?_⟩, ?_⟩
  · rw [List.size_toArray, ← rv.length]; exact hz
  · show b < (s1.heap.push _).objs.size
    rw [Heap.size_push]
    have : b = s1.heap.objs.size ∨ b = a ∨ b = x1 := by simpa using hb
    rcases this with z | z | z
    · rw [z]; exact Nat.lt_succ_self _
    · rw [z]; exact Nat.lt_succ_of_lt hla
    · rw [z]; exact Nat.lt_succ_of_lt hlt1
  · intro C i v s3 m3 E' _ _ _ _ _
    exact wpAny_pure ⟨rfl, s3.heap, s3.toks, rfl, fun _ _ e => e⟩
  · intro C i v s3 m3 E' hP _ hn hm hk _
    have hb : ∃ b, v = Value.bool b := by
      have : v ∈ its := by
        have := Array.mem_of_getElem? hP
        simpa using this
      rw [eits] at this
      obtain ⟨b, _, e⟩ := List.mem_map.mp this
      exact ⟨b, e.symm⟩
    obtain ⟨b, rfl⟩ := hb
    have up : ∀ d o, X.base.get? d = some o → s3.heap.get? d = some o := fun d o e => by
      have e1 := I1.bk d o e
      exact hk d o (fun z => (kp d o e1).2 (by simpa using z)) (kp d o e1).1
    refine wpAny_Call_Name_kw (Calls.Name_function_global hki hi (Calls.loadGlobal_builtin (by show s3.heap.Ns X.env.globals _; rw [I1.ok.glob]; exact I1.mod.glob.keeps up) hmi (by show s3.heap.Ns X.env.builtins _; rw [I1.ok.blt]; exact b1.keeps up) ((b2 "int" (by decide)).trans boot_int) ?_))
    refine PyProof.Rows.callWith_type1 (Calls.spliced_cons (wpAny_Name (wpAny_loadName_local hki hx hn hm (Calls.spliced_nil ?_)) hdb)) rfl rfl
    exact call_int_bool ⟨⟨b, _, rfl, rfl⟩, s3.heap, _, rfl, fun _ _ e => e⟩
  · intro D h' tk ys vs hD hl hpy hlen hP hF hk
    have evs : vs = its := by
      refine List.ext_getElem? fun j => ?_
      cases e : vs[j]? with
      | some v =>
        have := hP j v e
        simpa using this.symm
      | none =>
        have h1 := List.getElem?_eq_none_iff.mp e
        rw [hlen, List.size_toArray] at h1
        exact (List.getElem?_eq_none h1).symm
    rw [List.filter_eq_self.mpr (fun _ _ => rfl), evs] at hF
    have hints := ints_are eits hF
    obtain ⟨xs, exs⟩ := (hints.allInts).items
    have hnum := hints.numsOf
    have eys : ys = intItems xs := by rw [← exs]
    subst eys
    rw [nums_intItems] at hnum
    have old : ∀ b o, s1.heap.get? b = some o → h'.get? b = some o := fun b o e => hk b o (fun z => (kp b o e).2 (by simpa using z)) (kp b o e).1
    refine Calls.spliced_nil ?_
    refine sum_hot (hot_kept hot1 fun o e => old _ o e) hl fun h2 tk2 t2 hk2 => ?_
    refine ⟨.int _, H1, I1.kept fun b o e => hk2 b o (old b o e), ⟨t2, ?_⟩, q⟩
    rw [preSum_eq, List.take_of_length_le (by simp), hnum]
end
end SL
namespace SL
open PySem PySem.Spec PyProof.Rows L2
section
variable {ι : Type} {X : ι → Cx} {K : PySem.W.Frag} {E : Ent} {B : Hp} {Γ Γ' : Slots} {R R' R1 R2' R3 : List Res} {a b c e o : Expr} {es : List Expr} {pos p' : Pos} {s s1 s2 s3 : Sl}
  {P : Program} {w : World} {mg : Str → Option Value} {base : Heap} {A : Around} {N : List Str} {rest sts : List Stmt} {D : Ends} {S S' H H' : Hp} {σ σ' : L2.St} {x : Str} {C ad : Addr}
theorem hot_suite : ∀ j, L2H.HotC (XS X C ad j) := fun j => by
  obtain ⟨vs, e⟩ := j.2.2
  exact ⟨(ad, j.1.2.1), ⟨rfl, vs, e, j.2.1.2.2 vs e⟩, List.mem_cons_self⟩
/-- sum([int(x) for x in xs]) within an except suite -/
theorem ev_sumHot (F : Fam (XS X C ad) P w K mg base A N) {scope : Scope} {p p1 p2 p3 px lp : Pos} (bs : List Bool) (hms : mg "sum" = none) (hmi : mg "int" = none) (he : EvJ (XS X C ad) K E Γ R e R1 (sd (.list (bs.map .bool))))
    (hfr : ∀ y ∈ scope.names, y.2 ≠ .free := by decide) (hce : ∀ y ∈ scope.names, y.2 ≠ .cell := by decide) (hki : scope.kind = .function := by rfl) (hna : ∀ y ∈ scope.names, y.2 = .local → scope.names.lookup y.1 = some .local := by decide) (hx : scope.names.lookup x = some .local := by rfl) (hi : scope.names.lookup ("int" : Str) = some .globalImplicit := by rfl)
    (hg : ∀ i, Gl (XS X C ad i) "sum" := by exact fun _ => rfl)
    (hst : ∀ i, starEach [.ListComp (.Call (.Name "int" p1) [.Name x p2] [] p3) [⟨.Name x px, e, [], 0⟩] scope lp] (XS X C ad i).env = (false, eval (.ListComp (.Call (.Name "int" p1) [.Name x p2] [] p3) [⟨.Name x px, e, [], 0⟩] scope lp) (XS X C ad i).env) :: starEach [] (XS X C ad i).env := by exact fun _ => rfl)
    (hpl : ∀ i, (backTo pos (starEach [] (XS X C ad i).env)).any (·.1) = false := by exact fun _ => rfl) (hs : ∀ i x, foldedSetIterable e (XS X C ad i).env x = pure x := by exact fun _ _ => rfl) (hdb : (x == ("__debug__" : Str)) = false := by decide) :
    EvJ (XS X C ad) K E Γ R (.Call (.Name "sum" p) [.ListComp (.Call (.Name "int" p1) [.Name x p2] [] p3) [⟨.Name x px, e, [], 0⟩] scope lp] [] pos) R1 (dI ((bs.map fun b => if b then (1 : Int) else 0).sum)) := by
  obtain ⟨t, h1, h2⟩ := he
  refine ⟨_, fun i => pe_sumHot (hot_suite i) (h1 i) (hg i) (by rw [F.fmg i]; exact hms) (by rw [F.fmg i]; exact hmi) hfr hce hki hna hx hi (hst i) (hpl i) (hs i) hdb, fun S σ H Q q k => ?_⟩
  refine h2 S σ H _ q fun v S1 H1 e1 q1 r1 => ?_
  cases r1 with
  | lst h t =>
    have := da_bools (by rw [List.all_map]; exact List.all_eq_true.mpr fun _ _ => rfl) t
    have e2 : (bs.map PyData.bool).map dbool = bs := by rw [List.map_map]; exact List.map_id'' (fun _ => rfl) bs
    rw [e2] at this
    subst this
    exact ⟨_, bs, rfl, q1.sub _ _ h, k _ S1 H1 e1 q1 rfl⟩
/-- xs.index(b), xs a list of truths -/
theorem ev_bindex (F : Fam X P w K mg base A N) {bs : List Bool} {b : Bool} {m : Nat} {apos : Pos} (ho : EvJ X K E Γ R o R (sd (.list (bs.map .bool)))) (ha : EvJ X K E Γ R e R (dB b)) (hm : bs[m]? = some b) (hf : ∀ k, k < m → bs[k]? ≠ some b)
    (hbase : ∀ i, attributeBase o "index" (X i).env (eval o (X i).env) = eval o (X i).env := by exact fun _ => rfl)
    (hfew : ∀ i, ((backTo pos (starEach [e] (X i).env)).all (fun x => !x.1) && (backToKw pos (keywordEach [] (X i).env)).all (fun x => x.1.isSome) && decide ([e].length + ([] : List Keyword).length + (if ([] : List Keyword).isEmpty then 0 else 1) < 30)) = true := by exact fun _ => rfl)
    (hline : (apos.endLine == pos.line) = true := by rfl) (hst : ∀ i, starEach [e] (X i).env = (false, eval e (X i).env) :: starEach [] (X i).env := by exact fun _ => rfl) (hplain : ∀ i, (backTo pos (starEach [] (X i).env)).any (·.1) = false := by exact fun _ => rfl) :
    EvJ X K E Γ R (.Call (.Attribute o "index" apos) [e] [] pos) R (dI (m : Int)) := by
  refine ev_mt F PySem.F.plainAttrs_list PySem.F.slot_list_index PySem.F.type_list_index ho (ar_cons ha ar_nil hst) ⟨rIndex K, fun n => by rw [← F.fK n]; exact mt_index, fun Γ S σ H v q r => tyL lv_d q r, fun Γ S σ H v xs Q q r1 r2 k' => ?_⟩ hbase hfew hline hst hplain
  obtain ⟨u, rfl, r3⟩ := all2_one r2
  cases (show u = .bl b from r3)
  obtain ⟨p, vs, rfl, g1, g2⟩ := lv_d E Γ S σ H v q r1
  have ev := da_bools (by rw [List.all_map]; exact List.all_eq_true.mpr fun _ _ => rfl) g2
  have e2 : (bs.map PyData.bool).map dbool = bs := by rw [List.map_map]; exact List.map_id'' (fun _ => rfl) bs
  rw [e2] at ev
  subst ev
  refine ⟨p, _, _, m, .bl b, rfl, rfl, SqL.of g1, rfl, List.all_eq_true.mpr fun z hz => by obtain ⟨t, _, rfl⟩ := List.mem_map.mp hz; rfl, by rw [List.getElem?_map, hm]; rfl, beq_self_eq_true b, fun k z' hk hz => ?_, k' _ S H (Same.refl _) q rfl⟩
  rw [List.getElem?_map] at hz
  cases hn : bs[k]? with
  | none => rw [hn] at hz; exact nomatch hz
  | some t =>
    rw [hn] at hz
    cases hz
    exact beq_false_of_ne fun e => hf k hk (by rw [hn, e])
theorem evr_cls {W : WX} {C2 : Addr} (h : EvR X K E W Γ R e C R') (z : C = C2) : EvR X K E W Γ R e C2 R' := z ▸ h
theorem evn_is {ν : Type} {Rn : ν → List Res} {sn sm : ν → Sl} (h : EvN X K E Γ R e Rn sn) (hs : ∀ n S v, (sn n).r K S v → (sm n).r K S v) : EvN X K E Γ R e Rn sm :=
  let ⟨t, h1, h2⟩ := h; ⟨t, h1, fun S σ H Q q k => h2 S σ H Q q fun n v S' H' e q' r => k n v S' H' e q' (hs n _ _ r)⟩
end
end SL

/-! list(d.items()) -/
namespace SL
open PySem PySem.Spec PyProof.Rows L2
section
variable {ι : Type} {X : ι → Cx} {K : PySem.W.Frag} {E : Ent} {B : Hp} {Γ Γ' : Slots} {R R' R1 R2' R3 : List Res} {a b c e o : Expr} {es : List Expr} {pos p' : Pos} {s s1 s2 s3 : Sl}
  {P : Program} {w : World} {mg : Str → Option Value} {base : Heap} {A : Around} {N : List Str} {rest sts : List Stmt} {D : Ends} {S S' H H' : Hp} {σ σ' : L2.St} {x : Str}
open Classical in
/-- many new things, lasting -/
theorem SR.more (q : SR K E Γ R S σ H) (g : Addr → Prop) (hk : ∀ b o, H b = some o → H' b = some o) (hn : ∀ b, g b → H b = none) : ∃ S', Same S S' ∧ SR K E Γ R S' σ H' ∧ ∀ b, g b → S' b = H' b := by
  let S' : Hp := fun b => if g b then H' b else S b
  have old : ∀ b, H b ≠ none → S' b = S b := fun b hb => by
    show (if g b then H' b else S b) = S b
    rw [if_neg fun z => hb (hn b z)]
  have e : Same S S' := fun b u h => by rw [old b (by rw [q.sub b u h]; exact fun z => nomatch z)]; exact h
  refine ⟨S', e, ⟨fun b u h => ?_, q.ext.trans e, fun b u h n => hk b u (q.fr b u h n), fun b hb => ?_, ?_, slots_mono e q.slots⟩, fun b hb => if_pos hb⟩
  · by_cases z : g b
    · have h : (if g b then H' b else S b) = some u := h
      rw [if_pos z] at h; exact h
    · have h : (if g b then H' b else S b) = some u := h
      rw [if_neg z] at h; exact hk b u (q.sub b u h)
  · by_cases z : g b
    · by_cases n : E.A0 b
      · exact .inr (.inr n)
      · cases e0 : E.H0 b with
        | none => exact .inr (.inl rfl)
        | some u => have := hn b z; rw [q.fr b u e0 n] at this; cases this
    · have hb : (if g b then H' b else S b) ≠ none := hb
      rw [if_neg z] at hb; exact q.new b hb
  · obtain ⟨Os, ⟨h1, h2⟩, h3⟩ := q.own
    refine ⟨Os, ⟨h1.imp fun ρ O hh => ⟨ρ.mono e hh.1, fun b u z => hk b u (hh.2.1 b u z), fun b hb => ?_⟩, h2⟩, h3⟩
    have : H b ≠ none := by
      cases z : O b with
      | none => exact absurd z hb
      | some u => rw [hh.2.1 b u z]; exact fun z => nomatch z
    rw [old b this]
    exact hh.2.2 b hb
/-- list(d.items()) -/
theorem ev_litems {β : Type} {gg : β → Sl} {l : List (Str × β)} (F : Fam X P w K mg base A N) (k : Nat) {p : Addr} {f : β → PyData} {q0 apos cpos : Pos} (hl : mg "list" = none) (ho : EvJ X K E Γ R o R (sv (.ref p))) (hk : R[k]? = some (rDs p (onV gg l))) (hd : ∀ (y : β) K S v, (gg y).r K S v → Da K S v (f y))
    (hg : ∀ i, Gl (X i) "list" := by exact fun _ => rfl) (hb : ∀ i, attributeBase o "items" (X i).env (eval o (X i).env) = eval o (X i).env := by exact fun _ => rfl) (hline : (apos.endLine == cpos.line) = true := by rfl)
    (hs : ∀ i, starEach [.Call (.Attribute o "items" apos) [] [] cpos] (X i).env = (false, eval (.Call (.Attribute o "items" apos) [] [] cpos) (X i).env) :: starEach [] (X i).env := by exact fun _ => rfl) (hcm : ∀ i, (X i).calm = true := by exact fun _ => rfl) :
    EvJ X K E Γ R (.Call (.Name "list" q0) [.Call (.Attribute o "items" apos) [] [] cpos] [] pos) R (sd (.list (l.map fun y => .tuple [.str y.1, f y.2]))) := by
  obtain ⟨t, h1, h2⟩ := ho
  refine ⟨LiI.tListItems t, fun i => LiI.pe_listItems (hcm i) (h1 i) (hg i) (by rw [F.fmg i]; exact hl) boot_list (hb i) hline (hs i), fun S σ H Q q kk => h2 S σ H _ q fun v S1 H1 e1 q1 r1 => ?_⟩
  cases (show v = .ref p from r1)
  obtain ⟨kvs, hp, hkr⟩ := q1.cellD k hk
  refine ⟨p, kvs, rfl, hp, fun H' l ts k1 k2 k3 k4 k5 k6 => ?_⟩
  obtain ⟨S2, e2, q2, g2⟩ := q1.more (fun b => b = l ∨ b ∈ ts) k1 fun b hb => by
    rcases hb with z | z
    · rw [z]; exact k2
    · exact k3 b z
  refine kk (.ref l) S2 H' (e1.trans e2) q2 (.lst ((g2 l (.inl rfl)).trans k5) ?_)
  have : ∀ {ts : List Addr} {kvs : List (Key × V)} {l : List (Str × β)}, (∀ t ∈ ts, S2 t = H' t) → Paired (fun (t : Addr) (q : Key × V) => H' t = some (.tup [kV q.1, q.2])) ts kvs → KRs K S1 (onV gg l) kvs → DaAll K S2 (ts.map V.ref) (l.map fun y => .tuple [.str y.1, f y.2]) := by
    intro ts kvs l ht hp hr
    induction hp generalizing l with
    | nil =>
      cases l with
      | nil => exact .nil
      | cons y l => exact nomatch hr
    | cons p r ih =>
      cases l with
      | nil => exact nomatch hr
      | cons y l =>
        have hr : All2 _ ((y.1, gg y.2) :: onV gg l) _ := hr
        cases hr with
        | cons g gr =>
          refine .cons (.tup (SqT.of ((ht _ (by simp)).trans p)) (.cons ?_ (.cons (hd y.2 _ _ _ (Sl.mono _ e2 g.2)) .nil))) (ih (fun t ht2 => ht t (by simp [ht2])) gr)
          rw [g.1]
          exact .str _
  exact this (fun t ht => g2 t (.inr ht)) k6 hkr
def rGet2 : V → List V → Hp → VK → Prop := fun x xs H Q => ∃ a y d o, x = .ref a ∧ xs = [y, d] ∧ DGet H a y o ∧ Q (o.getD d) H
theorem mt_get2 {X : Cx} (hu : X.A.units + 64 < cLine) : MtR X "dict.get" rGet2 := by
  intro pins s σ H x xs v us Q I rx ry h
  obtain ⟨a, y, d, o, rfl, rfl, g, q⟩ := h
  obtain rfl : v = Value.ref a := rx
  obtain ⟨u, r, rfl, r1, r2⟩ := vals2 ry
  exact d_get2 (by omega) I g r1 r2 fun w' s' I' r' => ⟨_, H, I', r', q⟩
/-- d.get(k, x) -/
theorem ev_get2 (F : Fam X P w K mg base A N) {n : Nat} (hr : Room n A) (k : Nat) {p : Addr} {kss : List (Str × Sl)} {apos : Pos} {s0 : Sl} (ho : EvJ X K E Γ R o R (sv (.ref p))) (ha : EvJ X K E Γ R e R (dS x)) (hb : EvJ X K E Γ R b R s0) (hk : R[k]? = some (rDs p kss))
    (hbase : ∀ i, attributeBase o "get" (X i).env (eval o (X i).env) = eval o (X i).env := by exact fun _ => rfl)
    (hfew : ∀ i, ((backTo pos (starEach [e, b] (X i).env)).all (fun x => !x.1) && (backToKw pos (keywordEach [] (X i).env)).all (fun x => x.1.isSome) && decide ([e, b].length + ([] : List Keyword).length + (if ([] : List Keyword).isEmpty then 0 else 1) < 30)) = true := by exact fun _ => rfl)
    (hline : (apos.endLine == pos.line) = true := by rfl) (hs : ∀ i, starEach [e, b] (X i).env = (false, eval e (X i).env) :: starEach [b] (X i).env := by exact fun _ => rfl) (hs2 : ∀ i, starEach [b] (X i).env = (false, eval b (X i).env) :: starEach [] (X i).env := by exact fun _ => rfl) (hplain : ∀ i, (backTo pos (starEach [b] (X i).env)).any (·.1) = false := by exact fun _ => rfl) :
    EvJ X K E Γ R (.Call (.Attribute o "get" apos) [e, b] [] pos) R ((lk kss x).getD s0) := by
  refine ev_mt F PySem.F.plainAttrs_dict PySem.F.slot_dict_get PySem.F.type_dict_get ho (ar_cons ha (ar_cons hb ar_nil hs2) hs) ⟨rGet2, fun i => mt_get2 (by rw [F.fA i]; exact hr.units), tyD k hk, fun Γ S σ H u xs Q q r1 r2 k' => ?_⟩ hbase hfew hline hs hplain
  obtain ⟨v, v0, rfl, r3, r4⟩ := all2_two r2
  cases (show u = .ref p from r1)
  cases (show v = .str x from r3)
  obtain ⟨kvs, h1, h2⟩ := q.cellD k hk
  refine ⟨p, .str x, v0, _, rfl, rfl, rd_get (.inl h1) h2 x, k' _ S H (Same.refl _) q ?_⟩
  rcases h2.val x with ⟨e1, e2⟩ | ⟨t, v, e1, e2, e3⟩
  · rw [e1, e2]; exact r4
  · rw [e1, e2]; exact e3
theorem lk_rows {n : Str} : ∀ {rows : List RowS}, lk (rows.map fun r => (r.name, r)) n = (rowAt rows n).map Prod.snd
  | [] => rfl
  | r :: t => by
    by_cases z : r.name = n
    · show lk ((r.name, r) :: t.map fun r => (r.name, r)) n = _
      rw [lk_pos z, rowAt, if_pos z]; rfl
    · show lk ((r.name, r) :: t.map fun r => (r.name, r)) n = _
      rw [lk_neg z, rowAt, if_neg z, lk_rows (rows := t), Option.map_map]; rfl
/-- what a health is in the law's dict -/
def hltS (r : RowS) : Sl := sd (.tuple [.str (wdA r.well), .int r.cnt])
theorem sh_word (b : Bool) : ShD 9 (.str (wdA b)) := by cases b <;> exact sh_w (by decide +kernel) (by decide +kernel)
end
end SL

/-! calls, comparisons and «and» of what is chosen on the way -/
namespace SL
open PySem PySem.Spec PyProof.Rows L2
section
variable {ι : Type} {X : ι → Cx} {K : PySem.W.Frag} {E : Ent} {B : Hp} {Γ Γ' : Slots} {R R' R1 R2' R3 : List Res} {a b c e o : Expr} {es : List Expr} {pos p' : Pos} {s s1 s2 s3 : Sl}
  {P : Program} {w : World} {mg : Str → Option Value} {base : Heap} {A : Around} {N : List Str} {rest sts : List Stmt} {D : Ends} {S S' H H' : Hp} {σ σ' : L2.St} {x : Str} {ν : Type} {Rn : ν → List Res} {sn sm so : ν → Sl}
theorem ev_callBa {ss : ν → List Sl} {id : String} {f : Str} (F : Fam X P w K mg base A N) (hm : mg f = none) (hv : bootBuiltins f = some (.builtin id)) (ha : ArN X K E Γ R (e :: es) Rn ss) (hc : ∀ n, ClJ X K E (.builtin id) (Rn n) (ss n) (sn n))
    (hg : ∀ i, Gl (X i) f := by exact fun _ => rfl) (he : ∀ i, starEach (e :: es) (X i).env = (false, eval e (X i).env) :: starEach es (X i).env := by exact fun _ => rfl) (hpl : ∀ i, (backTo pos (starEach es (X i).env)).any (·.1) = false := by exact fun _ => rfl) (hn : f ≠ "__name__" := by decide) (hdb : (f == ("__debug__" : Str)) = false := by decide) :
    EvN X K E Γ R (.Call (.Name f p') (e :: es) [] pos) Rn sn := by
  obtain ⟨t, a1, a2⟩ := ha
  have hc' := fun n => Classical.choose_spec (hc n)
  exact ⟨tCB (fun vs H Q => ∃ n, Classical.choose (hc n) vs H Q) t, fun i => pe_callB (fun pins s σ H xs us Q I r ⟨n, h⟩ => (hc' n).1 i pins s σ H xs us Q I r h) (hg i) (by rw [F.fmg i]; exact hm) hv (a1 i) hn hdb (he i) (hpl i), fun S σ H Q q k => a2 S σ H _ q fun n vs S1 H1 e1 q1 r1 => ⟨n, (hc' n).2 Γ S1 σ H1 vs Q q1 r1 fun v S2 H2 e2 q2 r2 => k n v S2 H2 (e1.trans e2) q2 r2⟩⟩
theorem ev_cmpA {op : CmpOp} (ha : EvN X K E Γ R a Rn sn) (hb : ∀ n, EvJ X K E Γ (Rn n) b (Rn n) (sm n)) (ho : ∀ n, BinR X K E (compareOp op) (Rn n) (sn n) (sm n) (so n)) (hm : behindInMarks op b = false := by first | exact nomark _ | with_unfolding_all rfl) : EvN X K E Γ R (.Compare a [op] [b] pos) Rn so := by
  obtain ⟨ta, a1, a2⟩ := ha
  have hb' := fun n => Classical.choose_spec (hb n)
  have ho' := fun n => Classical.choose_spec (ho n)
  refine ⟨tOp (fun x y H Q => ∃ n, Classical.choose (ho n) x y H Q) ta _, fun i => pe_cmpR (fun pins s σ H x y v u Q I rx ry ⟨n, h⟩ => (ho' n).1 i pins s σ H x y v u Q I rx ry h) (a1 i) (pe_any fun n => (hb' n).1 i) hm, fun S σ H Q q k' => ?_⟩
  refine a2 S σ H _ q fun n x S1 H1 e1 q1 r1 => ⟨n, (hb' n).2 S1 σ H1 _ q1 fun y S2 H2 e2 q2 r2 => ⟨n, ?_⟩⟩
  exact (ho' n).2 Γ S2 σ H2 x y _ q2 ((sn n).mono e2 r1) r2 fun v S3 H3 e3 q3 r3 => k' n v S3 H3 ((e1.trans e2).trans e3) q3 r3
theorem ev_andA {Rm : ν → List Res} (ha : EvN X K E Γ R a Rn (fun _ => sv (.bl true))) (hb : ∀ n, EvJ X K E Γ (Rn n) (.BoolOp .And (b :: es) pos) (Rm n) (sm n)) : EvN X K E Γ R (.BoolOp .And (a :: b :: es) pos) Rm sm := by
  obtain ⟨ta, a1, a2⟩ := ha
  have hb' := fun n => Classical.choose_spec (hb n)
  exact ⟨tAndV ta _, fun i => pe_and (a1 i) (pe_any fun n => (hb' n).1 i), fun S σ H Q q k' => a2 S σ H _ q fun n v S1 H1 e1 q1 r1 => ⟨true, r1, n, (hb' n).2 S1 σ H1 Q q1 fun v S2 H2 e2 q2 r2 => k' n v S2 H2 (e1.trans e2) q2 r2⟩⟩
/-- if not e: .., where e is True and changes what is one's own -/
theorem blk_ifNot {bd : List Stmt} {p2 : Pos} (h : EvN X K E Γ R e Rn (fun _ => sv (.bl true))) (hr : ∀ n, Blk X K E B Γ (Rn n) rest D) (he : ∀ i whole, isTrue e (X i).env whole = (do let v ← whole; standAt e.pos; holding [v] (truthy v)) := by exact fun _ _ => rfl) :
    Blk X K E B Γ R (.If (.UnaryOp .Not e p2) bd [] pos :: rest) D := by
  obtain ⟨t, h1, h2⟩ := h
  have hr' := fun n => Classical.choose_spec (hr n)
  exact ⟨tSeq (tIfS (tNot (tB t)) (fun _ _ _ => False) tNext) (fun D σ H => ∃ n, Classical.choose (hr n) D σ H), fun i => pss_cons (ps_if (pt_not (pt_val (h1 i) (he i))) pss_of_never pss_nil) (pss_any fun n => (hr' n).1 i), fun S σ H b q => h2 S σ H _ q fun n v S1 H1 e1 q1 r1 => ⟨true, r1, iteF ⟨n, (hr' n).2 S1 σ H1 (b.trans e1) q1⟩⟩⟩
/-- xs.append(e), e chosen on the way -/
theorem ev_appendA {d : ν → PyData} (F : Fam X P w K mg base A N) (k : Nat) {p : Addr} {ds : List PyData} {apos : Pos} (ho : EvJ X K E Γ R o R (sv (.ref p))) (ha : EvN X K E Γ R e (fun _ => R) sn) (hd : ∀ n K S v, (sn n).r K S v → Da K S v (d n)) (hk : R[k]? = some (rL p ds)) (hz : ds.length < 10000000)
    (hbase : ∀ i, attributeBase o "append" (X i).env (eval o (X i).env) = eval o (X i).env := by exact fun _ => rfl)
    (hfew : ∀ i, ((backTo pos (starEach [e] (X i).env)).all (fun x => !x.1) && (backToKw pos (keywordEach [] (X i).env)).all (fun x => x.1.isSome) && decide ([e].length + ([] : List Keyword).length + (if ([] : List Keyword).isEmpty then 0 else 1) < 30)) = true := by exact fun _ => rfl)
    (hline : (apos.endLine == pos.line) = true := by rfl) (hs : ∀ i, starEach [e] (X i).env = (false, eval e (X i).env) :: starEach [] (X i).env := by exact fun _ => rfl) (hplain : ∀ i, (backTo pos (starEach [] (X i).env)).any (·.1) = false := by exact fun _ => rfl) :
    EvN X K E Γ R (.Call (.Attribute o "append" apos) [e] [] pos) (fun n => R.set k (rL p (ds ++ [d n]))) (fun _ => dN) := by
  obtain ⟨to, o1, o2⟩ := ho
  obtain ⟨ta, a1, a2⟩ := arn_cons ha (fun n => arn_nil) hs
  refine ⟨tBM K "list" rAppend to ta, fun i => by rw [← F.fK i]; exact pe_bm PySem.F.plainAttrs_list PySem.F.slot_list_append PySem.F.type_list_append mt_append (o1 i) (a1 i) (hbase i) (hfew i) hline (hs i) (hplain i), fun S σ H Q q kk => o2 S σ H _ q fun v S1 H1 e1 q1 r1 => ?_⟩
  cases (show v = .ref p from r1)
  obtain ⟨ws, g1, _⟩ := q1.cellL k hk
  refine ⟨.inl ⟨rfl, _, SqL.of g1⟩, a2 S1 σ H1 _ q1 fun n vs S2 H2 e2 q2 r2 => ?_⟩
  obtain ⟨n, _⟩ := n
  obtain ⟨u, rfl, r3⟩ := all2_one r2
  obtain ⟨vs, h1, h2⟩ := q2.cellL k hk
  refine ⟨p, vs, u, rfl, rfl, h1, ?_, kk n _ S2 _ (e1.trans e2) (q2.putL k hk (daAll_app h2 (.cons (hd n K S2 u r3) .nil))) rfl⟩
  have := daAll_len h2
  have : (sizeLine : Nat) = 16777216 := sizeLine_eq
  omega
end
end SL

/-! over reversed(xs) -/
namespace SL
open PySem PySem.Spec PyProof.Rows L2 RT
section
variable {ι : Type} {X : ι → Cx} {K : PySem.W.Frag} {E : Ent} {B : Hp} {Γ Γ' : Slots} {R R' R1 R2' R3 : List Res} {a b c e o : Expr} {es : List Expr} {pos p' : Pos} {s s1 s2 s3 : Sl}
  {P : Program} {w : World} {mg : Str → Option Value} {base : Heap} {A : Around} {N : List Str} {rest sts : List Stmt} {D : Ends} {S S' H H' : Hp} {σ σ' : L2.St} {x : Str}
theorem it_rev (F : Fam X P w K mg base A N) {tg : Expr} {ds : List PyData} (hm : mg "reversed" = none) (h : EvJ X K E Γ R e R1 s) (hl : LS K E R1 s ds CAny) (hg : ∀ i, Gl (X i) "reversed" := by exact fun _ => rfl)
    (hs : ∀ i, starEach [e] (X i).env = (false, eval e (X i).env) :: starEach [] (X i).env := by exact fun _ => rfl) : ItJ X K E Γ R tg (.Call (.Name "reversed" p') [e] [] pos) R1 (ds.reverse.map sl) CAny := by
  obtain ⟨t, a1, a2⟩ := h
  refine ⟨iRevA K t, fun i => by rw [← F.fK i]; exact pi_revA (hg i) (by rw [F.fmg i]; exact hm) (a1 i) (hs i), fun S σ H Rk q k => a2 S σ H _ q fun v S1 H1 e1 q1 r1 => ?_⟩
  obtain ⟨p, rfl, h1, h2⟩ := hl Γ S1 σ H1 v q1 r1
  obtain ⟨us, c1, c2⟩ := h2 Γ R1 S1 σ H1 (Same.refl _) q1 trivial
  have hlen : us.length = ds.length := daAll_len c2
  refine ⟨p, us, rfl, .inl ⟨c1, k _ S1 H1 e1 q1 fun n Γ' R' S' σ' H' e' q' hC => ?_⟩⟩
  obtain ⟨vs, g1, g2⟩ := h2 Γ' R' S' σ' H' e' q' hC
  have hl2 : vs.length = ds.length := daAll_len g2
  refine ⟨fun s hs => ?_, fun hn => by rw [List.length_map, List.length_reverse] at hn; show us.length ≤ n; omega⟩
  rw [List.getElem?_map] at hs
  cases e2 : ds.reverse[n]? with
  | none => rw [e2] at hs; cases hs
  | some d =>
    rw [e2] at hs
    cases hs
    have hn : n < ds.length := by
      obtain ⟨h3, _⟩ := List.getElem?_eq_some_iff.mp e2
      rw [List.length_reverse] at h3; exact h3
    rw [List.getElem?_reverse hn] at e2
    obtain ⟨x, hx, hd⟩ := daAll_get' g2 e2
    rw [← hlen] at hx
    refine ⟨⟨by omega, vs, x, g1, hx⟩, fun y H'' ⟨z1, z2⟩ => ?_⟩
    subst z1
    cases sqL_same (ys := vs) (xs := vs) z2 g1 hx
    exact ⟨S', Same.refl _, q', sl_da.mpr hd⟩
theorem evn_list {ds es : List PyData} (h : EvL X K E Γ R e R1 ds) (z : ds = es) : EvL X K E Γ R e R1 es := z ▸ h
theorem ev_binA {ν μ : Type} {Rm : μ → List Res} {sm : μ → Sl} {Rx : μ → ν → List Res} {sx : μ → ν → Sl} {op : Operator} (ha : EvJ X K E Γ R a R1 s1) (hb : EvN X K E Γ R1 b Rm sm) (ho : ∀ m, BinRN X K E (binaryOp op) (Rm m) s1 (sm m) (Rx m) (sx m)) : EvN X K E Γ R (.BinOp a op b pos) (fun n : μ × ν => Rx n.1 n.2) (fun n => sx n.1 n.2) := by
  obtain ⟨ta, a1, a2⟩ := ha
  obtain ⟨tb, b1, b2⟩ := hb
  have ho' := fun m => Classical.choose_spec (ho m)
  refine ⟨tOp (fun x y H Q => ∃ m, Classical.choose (ho m) x y H Q) ta tb, fun i => pe_op (fun pins s σ H x y v u Q I rx ry ⟨m, h⟩ => (ho' m).1 i pins s σ H x y v u Q I rx ry h) (a1 i) (b1 i), fun S σ H Q q k => ?_⟩
  refine a2 S σ H _ q fun x S1 H1 e1 q1 r1 => b2 S1 σ H1 _ q1 fun m y S2 H2 e2 q2 r2 => ⟨m, ?_⟩
  exact (ho' m).2 Γ S2 σ H2 x y Q q2 (s1.mono e2 r1) r2 fun n v S3 H3 e3 q3 r3 => k (m, n) v S3 H3 ((e1.trans e2).trans e3) q3 r3
end
end SL

/-! tests that change what is one's own -/
namespace SL
open PySem PySem.Spec PyProof.Rows L2
section
variable {ι : Type} {X : ι → Cx} {K : PySem.W.Frag} {E : Ent} {B : Hp} {Γ Γ' : Slots} {R R' R1 R2' R3 : List Res} {a b c e o : Expr} {es : List Expr} {pos p' : Pos} {s s1 s2 s3 : Sl}
  {P : Program} {w : World} {mg : Str → Option Value} {base : Heap} {A : Around} {N : List Str} {rest sts bd be : List Stmt} {D : Ends} {S S' H H' : Hp} {σ σ' : L2.St} {x : Str} {ν μ : Type} {Rn : ν → List Res} {sn sm so : ν → Sl} {k j : Bool}
variable (X) (K) (E) in
def TnJ (Γ : Slots) (R : List Res) (e : Expr) (b : Bool) (Rn : ν → List Res) : Prop :=
  ∃ t : TT, (∀ i, PT (X i) e t) ∧ ∀ S σ H (Q : Bool → Hp → Prop), SR K E Γ R S σ H → (∀ n, KontB K E Γ (Rn n) σ S b Q) → t σ H Q
variable (X) (K) (E) in
def TvJ (Γ : Slots) (R : List Res) (e : Expr) (b : Bool) (Rn : ν → List Res) : Prop :=
  ∃ t : TT, (∀ i, PW (X i) e t) ∧ ∀ S σ H (Q : Bool → Hp → Prop), SR K E Γ R S σ H → (∀ n, KontB K E Γ (Rn n) σ S b Q) → t σ H Q
theorem tn_val (h : EvN X K E Γ R e Rn (fun _ => sv (.bl k))) (he : ∀ i whole, isTrue e (X i).env whole = (do let v ← whole; standAt e.pos; holding [v] (truthy v)) := by exact fun _ _ => rfl) : TnJ X K E Γ R e k Rn := by
  obtain ⟨t, h1, h2⟩ := h
  exact ⟨tB t, fun i => pt_val (h1 i) (he i), fun S σ H Q q k' => h2 S σ H _ q fun n v S1 H1 e1 q1 r1 => ⟨k, r1, k' n S1 H1 e1 q1⟩⟩
theorem tn_not (h : TnJ X K E Γ R e k Rn) : TnJ X K E Γ R (.UnaryOp .Not e pos) (!k) Rn := by
  obtain ⟨t, h1, h2⟩ := h
  exact ⟨tNot t, fun i => pt_not (h1 i), fun S σ H Q q k' => h2 S σ H _ q fun n S1 H1 e1 q1 => k' n S1 H1 e1 q1⟩
theorem tn_cmp {op : CmpOp} (ha : EvN X K E Γ R a Rn sn) (hb : ∀ n, EvJ X K E Γ (Rn n) b (Rn n) (sm n)) (ho : ∀ n, BinR X K E (compareOp op) (Rn n) (sn n) (sm n) (sv (.bl k))) (hm : behindInMarks op b = false := by first | exact nomark _ | with_unfolding_all rfl) : TnJ X K E Γ R (.Compare a [op] [b] pos) k Rn := by
  obtain ⟨ta, a1, a2⟩ := ha
  have hb' := fun n => Classical.choose_spec (hb n)
  have ho' := fun n => Classical.choose_spec (ho n)
  refine ⟨tTest (tOp (fun x y H Q => ∃ n, Classical.choose (ho n) x y H Q) ta _), fun i => pt_cmpR (fun pins s σ H x y v u Q I rx ry ⟨n, h⟩ => (ho' n).1 i pins s σ H x y v u Q I rx ry h) (a1 i) (pe_any fun n => (hb' n).1 i) hm, fun S σ H Q q k' => ?_⟩
  refine a2 S σ H _ q fun n x S1 H1 e1 q1 r1 => ⟨n, (hb' n).2 S1 σ H1 _ q1 fun y S2 H2 e2 q2 r2 => ⟨n, ?_⟩⟩
  exact (ho' n).2 Γ S2 σ H2 x y _ q2 ((sn n).mono e2 r1) r2 fun v S3 H3 e3 q3 r3 => ⟨k, r3, k' n S3 H3 ((e1.trans e2).trans e3) q3⟩
theorem tn_of (h : TeJ X K E Γ R e k) : TnJ X K E Γ R e k (fun _ : Unit => R) := let ⟨t, h1, h2⟩ := h; ⟨t, h1, fun S σ H Q q kk => h2 S σ H Q q (kk ())⟩
theorem tv_or1 (h : TnJ X K E Γ R a k Rn) : TvJ X K E Γ R (.BoolOp .Or [a] pos) k Rn := let ⟨t, h1, h2⟩ := h; ⟨t, fun i => pw_or1 (h1 i), h2⟩
theorem pw_any {Y : Cx} {ν : Type} {u : ν → TT} (h : ∀ n, PW Y e (u n)) : PW Y e (fun σ H Q => ∃ n, u n σ H Q) := ⟨fun wh pins s σ H Q I ⟨n, q⟩ => (h n).run wh pins s σ H Q I q⟩
/-- a false first part of an or -/
theorem tv_or {Rm : ν → μ → List Res} (ha : TnJ X K E Γ R a false Rn) (hb : ∀ n, TvJ X K E Γ (Rn n) (.BoolOp .Or (b :: es) pos) j (Rm n)) : TvJ X K E Γ R (.BoolOp .Or (a :: b :: es) pos) j (fun n : ν × μ => Rm n.1 n.2) := by
  obtain ⟨ta, a1, a2⟩ := ha
  have hb' := fun n => Classical.choose_spec (hb n)
  exact ⟨tOr ta _, fun i => pw_or (a1 i) (pw_any fun n => (hb' n).1 i), fun S σ H Q q k' => a2 S σ H _ q fun n S1 H1 e1 q1 => ⟨n, (hb' n).2 S1 σ H1 Q q1 fun m S2 H2 e2 q2 => k' (n, m) S2 H2 (e1.trans e2) q2⟩⟩
theorem tn_bop (h : TvJ X K E Γ R e k Rn) : TnJ X K E Γ R e k Rn := let ⟨t, h1, h2⟩ := h; ⟨t, fun i => (h1 i).pt, h2⟩
/-- if e: .., e False -/
theorem blk_ifNo (h : TnJ X K E Γ R e false Rn) (hr : ∀ n, Blk X K E B Γ (Rn n) rest D) : Blk X K E B Γ R (.If e bd [] pos :: rest) D := by
  obtain ⟨t, h1, h2⟩ := h
  have hr' := fun n => Classical.choose_spec (hr n)
  exact ⟨tSeq (tIfS t (fun _ _ _ => False) tNext) (fun D σ H => ∃ n, Classical.choose (hr n) D σ H), fun i => pss_cons (ps_if (h1 i) pss_of_never pss_nil) (pss_any fun n => (hr' n).1 i), fun S σ H b q => h2 S σ H _ q fun n S1 H1 e1 q1 => iteF ⟨n, (hr' n).2 S1 σ H1 (b.trans e1) q1⟩⟩
end
end SL

/-! a list of new lists walked; reverse, pop -/
namespace SL
open PySem PySem.Spec PyProof.Rows L2
section
variable {ι : Type} {X : ι → Cx} {K : PySem.W.Frag} {E : Ent} {B : Hp} {Γ Γ' : Slots} {R R' R1 R2' R3 : List Res} {a b c e o : Expr} {es : List Expr} {pos p' : Pos} {s s1 s2 s3 : Sl}
  {P : Program} {w : World} {mg : Str → Option Value} {base : Heap} {A : Around} {N : List Str} {rest sts bd be : List Stmt} {D : Ends} {S S' H H' : Hp} {σ σ' : L2.St} {x : Str} {ν μ : Type} {Rn : ν → List Res} {sn sm so : ν → Sl}
/-- a display of what is chosen on the way, as values -/
theorem el_lstR {ss : ν → List Sl} (h : ArN X K E Γ R es Rn ss) (hz : ∀ n, (ss n).length ≤ 1000 := by exact fun _ => Nat.le_of_ble_eq_true rfl) :
    EvN X K E Γ R (.List es pos) (fun n : ν × Addr => Rn n.1 ++ [rLs n.2 (ss n.1)]) (fun n => sv (.ref n.2)) := by
  obtain ⟨t, h1, h2⟩ := h
  refine ⟨tLst t, fun i => pe_lst (h1 i), fun S σ H Q q k => h2 S σ H _ q fun n vs S1 H1 e1 q1 r1 => ⟨Nat.le_of_lt (small1000 (by rw [← r1.len]; exact hz n)), fun p hp => ?_⟩⟩
  exact k (n, p) (.ref p) S1 _ e1 (q1.mine hp ⟨vs, rfl, r1⟩) rfl
/-- for x in what is made here -/
theorem blk_forN {α : Type} {tg iter : Expr} {R1 : ν → List Res} {items : ν → List Sl} {C : ν → List Res → Prop} {us : List Nat} {xs : ν → List α} {it : α → Sl} {up : α → Slots → Slots} (G : ν → List α → Slots) (RR : ν → List α → List Res)
    (F : Fam X P w K mg base A N) (hp : ∀ i, PassesOwn (model (X i).prog (X i).w) (X i).A (X i).env (X i).xe) (hi : ItN X K E Γ R tg iter R1 items C) (hit : ∀ m, items m = (xs m).map it) (htg : TgA X K E tg it up us)
    (h0 : ∀ m S σ H, SR K E Γ (R1 m) S σ H → SR K E (G m []) (RR m []) S σ H) (hC : ∀ m pre, C m (RR m pre))
    (hb : ∀ m pre x post B' (Z : L2.St → Hp → Prop), xs m = pre ++ x :: post → Blk X K E B' (up x (G m pre)) (RR m pre) bd { nx := Pst K E B' (G m (pre ++ [x])) (RR m (pre ++ [x])), rt := D.rt, bk := Z, ct := Pst K E B' (G m (pre ++ [x])) (RR m (pre ++ [x])) })
    (hr : ∀ m, Blk X K E B (G m (xs m)) (RR m (xs m)) rest D) (hs : ∀ i x, foldedSetIterable iter (X i).env x = pure x := by exact fun _ _ => rfl) (hcm : ∀ i, (X i).calm = true := by exact fun _ => rfl) : Blk X K E B Γ R (.For tg iter bd [] pos :: rest) D := by
  obtain rfl : items = fun m => (xs m).map it := funext hit
  obtain ⟨wi, w1, w2⟩ := hi
  obtain ⟨g, t1, t2⟩ := htg
  have hr' := fun m => Classical.choose_spec (hr m)
  have hb' := fun (n : { q : ν × List α × α × List α × Hp × (L2.St → Hp → Prop) // xs q.1 = q.2.1 ++ q.2.2.1 :: q.2.2.2.1 }) => Classical.choose_spec (hb n.1.1 n.1.2.1 n.1.2.2.1 n.1.2.2.2.1 n.1.2.2.2.2.1 n.1.2.2.2.2.2 n.2)
  refine ⟨tSeq (tFor wi g _) (fun D σ H => ∃ m, Classical.choose (hr m) D σ H), fun i => pss_cons (ps_for (hp i) (hcm i) (w1 i) (t1 i) (pss_any fun n => (hb' n).1 i) (hs i)) (pss_any fun m => (hr' m).1 i), fun S σ H b q => ?_⟩
  refine w2 S σ H _ q fun m J S1 H1 e1 q1 hJ => ?_
  refine ⟨fun n l σ H => l = (xs m).length - n ∧ n ≤ (xs m).length ∧ ∃ S', Same S1 S' ∧ SR K E (G m ((xs m).take n)) (RR m ((xs m).take n)) S' σ H, ⟨(xs m).length, by simp, Nat.zero_le _, S1, Same.refl _, h0 m S1 σ H1 q1⟩, ?_⟩
  rintro n l σ2 H2 ⟨rfl, hn, S2, e2, q2⟩
  obtain ⟨g1, g2⟩ := hJ n _ _ S2 σ2 H2 e2 q2 (hC m _)
  by_cases hlt : n < (xs m).length
  · have hx : (xs m)[n]? = some (xs m)[n] := List.getElem?_eq_getElem hlt
    have hsplit : xs m = (xs m).take n ++ (xs m)[n] :: (xs m).drop (n + 1) := by rw [← List.drop_eq_getElem_cons hlt, List.take_append_drop]
    have htake : (xs m).take (n + 1) = (xs m).take n ++ [(xs m)[n]] := by rw [List.take_succ, hx]; rfl
    obtain ⟨go, hy⟩ := g1 (it (xs m)[n]) (by rw [List.getElem?_map, hx]; rfl)
    refine .inr ⟨go, Pst K E S2 (G m ((xs m).take n ++ [(xs m)[n]])) (RR m ((xs m).take n ++ [(xs m)[n]])), fun σ' H' ⟨S', e', q'⟩ => ⟨(xs m).length - (n + 1), by omega, rfl, hlt, S', e2.trans e', by rw [htake]; exact q'⟩, fun x H' hx' => ?_⟩
    obtain ⟨S3, e3, q3, r3⟩ := hy x H' hx'
    refine t2 (xs m)[n] _ _ S3 σ2 H' x _ q3 r3 fun σ4 q4 _ _ => ?_
    exact ⟨⟨(m, (xs m).take n, (xs m)[n], (xs m).drop (n + 1), S2, _), hsplit⟩, (hb' ⟨(m, (xs m).take n, (xs m)[n], (xs m).drop (n + 1), S2, _), hsplit⟩).2 S3 σ4 H' e3 q4⟩
  · have e : n = (xs m).length := by omega
    subst e
    refine .inl ⟨g2 (by rw [List.length_map]; exact Nat.le_refl _), m, (hr' m).2 S2 σ2 H2 (b.trans (e1.trans e2)) ?_⟩
    rw [List.take_length] at q2
    exact q2
/-- xs.reverse() -/
theorem ev_lrev (F : Fam X P w K mg base A N) (k : Nat) {p : Addr} {ds : List PyData} {apos : Pos} (ho : EvJ X K E Γ R o R (sv (.ref p))) (hk : R[k]? = some (rL p ds))
    (hbase : ∀ i, attributeBase o "reverse" (X i).env (eval o (X i).env) = eval o (X i).env := by exact fun _ => rfl) (hline : (apos.endLine == pos.line) = true := by rfl) :
    EvJ X K E Γ R (.Call (.Attribute o "reverse" apos) [] [] pos) (R.set k (rL p ds.reverse)) dN := by
  refine ev_mt0 F PySem.F.plainAttrs_list PySem.F.slot_list_reverse PySem.F.type_list_reverse ho ⟨rReverse, fun _ => mt_reverse, fun Γ S σ H x q r => tyL (lv_o k hk) q r, fun Γ S σ H x xs Q q r1 r2 k' => ?_⟩ hbase hline
  cases (show x = .ref p from r1)
  cases r2
  obtain ⟨vs, h1, h2⟩ := q.cellL k hk
  have hrev : ∀ {vs : List V} {ds : List PyData}, DaAll K S vs ds → DaAll K S vs.reverse ds.reverse := by
    intro vs
    induction vs with
    | nil => intro ds h; cases h; exact .nil
    | cons v vs ih =>
      intro ds h
      cases h with
      | cons g t => rw [List.reverse_cons, List.reverse_cons]; exact daAll_app (ih t) (.cons g .nil)
  exact ⟨p, vs, rfl, rfl, h1, k' _ S _ (Same.refl _) (q.putL k hk (hrev h2)) rfl⟩
/-- xs.pop() -/
theorem ev_lpop (F : Fam X P w K mg base A N) (k : Nat) {p : Addr} {ds : List PyData} {d : PyData} {apos : Pos} (ho : EvJ X K E Γ R o R (sv (.ref p))) (hk : R[k]? = some (rL p ds)) (hd : ds[ds.length - 1]? = some d)
    (hbase : ∀ i, attributeBase o "pop" (X i).env (eval o (X i).env) = eval o (X i).env := by exact fun _ => rfl) (hline : (apos.endLine == pos.line) = true := by rfl) :
    EvJ X K E Γ R (.Call (.Attribute o "pop" apos) [] [] pos) (R.set k (rL p ds.dropLast)) (sl d) := by
  refine ev_mt0 F PySem.F.plainAttrs_list PySem.F.slot_list_pop PySem.F.type_list_pop ho ⟨rPop, fun _ => mt_pop, fun Γ S σ H x q r => tyL (lv_o k hk) q r, fun Γ S σ H x xs Q q r1 r2 k' => ?_⟩ hbase hline
  cases (show x = .ref p from r1)
  cases r2
  obtain ⟨vs, h1, h2⟩ := q.cellL k hk
  have hlen := daAll_len h2
  obtain ⟨y, hy, hyd⟩ := daAll_get' h2 hd
  refine ⟨p, vs, y, rfl, rfl, h1, by rw [hlen]; exact hy, k' _ S _ (Same.refl _) (q.putL k hk ?_) (sl_da.mpr hyd)⟩
  rw [List.dropLast_eq_take, List.dropLast_eq_take, hlen]
  exact daAll_take _ h2
/-- x in (a, b, ..), texts -/
theorem br_inTs (F : Fam X P w K mg base A N) {ns : List Str} : BinR X K E (compareOp .In) R (dS x) (stup (ns.map fun n => dS n)) (dB (decide (x ∈ ns))) :=
  ⟨rIn K false, fun n => by rw [← F.fK n]; exact op_in_seq, fun Γ S σ H u y Q q r1 r2 k => by
    cases (show u = .str x from r1)
    obtain ⟨p, vs, rfl, h1, h2⟩ := r2
    have : ∀ {ns : List Str} {vs : List V}, All2 (fun (s : Sl) v => s.r K S v) (ns.map fun n => dS n) vs → vs = ns.map V.str := by
      intro ns
      induction ns with
      | nil => intro vs h; cases h; rfl
      | cons n ns ih =>
        intro vs h
        cases h with
        | cons g t => rw [ih t, show _ = V.str n from g]; rfl
    rw [this h2] at h1
    exact ⟨p, _, rfl, .inr (same_t q.sub h1), rfl, List.all_eq_true.mpr fun z hz => by obtain ⟨t, _, rfl⟩ := List.mem_map.mp hz; rfl, k _ S H (Same.refl _) q (by rw [← inV_strs]; rfl)⟩⟩
end
end SL

/-! entries, and what stands behind them: the plain side -/
namespace SL
open PySem PySem.Spec PyProof.Rows L2
inductive En where
  | put (n z : Str) (w : Int)
  | weigh (n : Str) (w : Int)
  | drain (n : Str)
  | fill (n : Str)
  | out (n : Str)
  | word (b : Bool) (n : Str)
  | opn (a n : Str)
  | fin (a n : Str)
  | moved (a o n : Str)
  | lost (a o : Str)
def En.d : En → List PyData
  | .put n z w => [.str "put", .str n, .str z, .int w]
  | .weigh n w => [.str "weigh", .str n, .int w]
  | .drain n => [.str "drain", .str n]
  | .fill n => [.str "fill", .str n]
  | .out n => [.str "out", .str n]
  | .word b n => [.str (wdA b), .str n]
  | .opn a n => [.str "open", .str a, .str n]
  | .fin a n => [.str "end", .str a, .str n]
  | .moved a o n => [.str "moved", .str a, .str o, .str n]
  | .lost a o => [.str "lost", .str a, .str o]
abbrev enD (e : En) : PyData := .tuple e.d
structure QR where
  name : Str
  zone : Str
  wt : Int
  well : Bool
  dr : Bool
structure QS where
  rows : List QR
  stand : List (Str × Str)
def qAt : List QR → Str → Option (Nat × QR)
  | [], _ => none
  | r :: t, n => if r.name = n then some (0, r) else (qAt t n).map fun p => (p.1 + 1, p.2)
def liveQ (q : QS) (n : Str) : Bool := match qAt q.rows n with
  | some p => p.2.well && !p.2.dr
  | none => false
def canQ (q : QS) : En → Bool
  | .put n _ _ => !(qAt q.rows n).isSome
  | .weigh n _ => (qAt q.rows n).isSome
  | .drain n => match qAt q.rows n with
    | some p => !p.2.dr
    | none => false
  | .fill n => match qAt q.rows n with
    | some p => p.2.dr
    | none => false
  | .out n => (qAt q.rows n).isSome
  | .word b n => match qAt q.rows n with
    | some p => !decide (p.2.well = b)
    | none => false
  | .opn a n => !(lk q.stand a).isSome && liveQ q n
  | .fin a n => decide (lk q.stand a = some n)
  | .moved a o n => decide (lk q.stand a = some o) && (!decide (n = o) && liveQ q n)
  | .lost a o => decide (lk q.stand a = some o)
def setQ (q : QS) (n : Str) (f : QR → QR) : QS := match qAt q.rows n with
  | some p => { q with rows := q.rows.set p.1 (f p.2) }
  | none => q
def takeQ (q : QS) : En → QS
  | .put n z w => { q with rows := q.rows ++ [⟨n, z, w, true, false⟩] }
  | .weigh n w => setQ q n fun r => { r with wt := w }
  | .drain n => setQ q n fun r => { r with dr := true }
  | .fill n => setQ q n fun r => { r with dr := false }
  | .out n => match qAt q.rows n with
    | some p => { q with rows := q.rows.eraseIdx p.1 }
    | none => q
  | .word b n => setQ q n fun r => { r with well := b }
  | .opn a n => { q with stand := pt q.stand a n }
  | .fin a _ => { q with stand := dr q.stand a }
  | .moved a _ n => { q with stand := pt q.stand a n }
  | .lost a _ => { q with stand := dr q.stand a }
def runQ : QS → List En → Option QS
  | q, [] => some q
  | q, e :: es => if canQ q e = true then runQ (takeQ q e) es else none
theorem runQ_app : ∀ {es fs : List En} {q : QS}, runQ q (es ++ fs) = (runQ q es).bind fun r => runQ r fs
  | [], fs, q => rfl
  | e :: es, fs, q => by
    show (if canQ q e = true then runQ (takeQ q e) (es ++ fs) else none) = (if canQ q e = true then runQ (takeQ q e) es else none).bind _
    split
    · exact runQ_app
    · rfl
theorem runQ_one {q : QS} {e : En} (h : canQ q e = true) : runQ q [e] = some (takeQ q e) := by
  show (if canQ q e = true then some (takeQ q e) else none) = _
  rw [if_pos h]
theorem runQ_two {q q1 q2 : QS} {es fs : List En} (h1 : runQ q es = some q1) (h2 : runQ q1 fs = some q2) : runQ q (es ++ fs) = some q2 := by
  rw [runQ_app, h1]; exact h2
def qr (r : RowS) : QR := ⟨r.name, r.zone, r.wt, r.well, r.dr⟩
def gS (o : Option Str) : Str := o.getD Str.empty
def qOf (h : HS) : QS := ⟨h.rows.map qr, onV gS h.stand⟩
theorem qAt_of : ∀ {rows : List RowS} {n : Str}, qAt (rows.map qr) n = (rowAt rows n).map fun p => (p.1, qr p.2)
  | [], n => rfl
  | r :: t, n => by
    show (if r.name = n then some (0, qr r) else (qAt (t.map qr) n).map fun p => (p.1 + 1, p.2)) = (if r.name = n then some (0, r) else (rowAt t n).map fun p => (p.1 + 1, p.2)).map _
    split
    · rfl
    · rw [qAt_of]
      cases rowAt t n <;> rfl
theorem qAt_one {rows : List RowS} {n : Str} {i : Nat} {r : RowS} (h : rowAt rows n = some (i, r)) : qAt (rows.map qr) n = some (i, qr r) := by
  rw [qAt_of, h]; rfl
theorem setQ_of {h : HS} {n : Str} {i : Nat} {r r' : RowS} {f : QR → QR} (e : rowAt h.rows n = some (i, r)) (hf : f (qr r) = qr r') : setQ (qOf h) n f = qOf { h with rows := h.rows.set i r' } := by
  unfold setQ
  show (match qAt (h.rows.map qr) n with | some p => _ | none => _) = _
  rw [qAt_one e]
  show (⟨(h.rows.map qr).set i (f (qr r)), _⟩ : QS) = ⟨(h.rows.set i r').map qr, _⟩
  rw [hf, List.map_set]
  rfl
theorem erase_map {α β : Type} (f : α → β) : ∀ (l : List α) (j : Nat), (l.map f).eraseIdx j = (l.eraseIdx j).map f
  | [], _ => rfl
  | x :: l, 0 => rfl
  | x :: l, j + 1 => by show f x :: (l.map f).eraseIdx j = f x :: (l.eraseIdx j).map f; rw [erase_map f l j]
/-! asks that have no server while they move -/
theorem keys_ext {β : Type} : ∀ {l m : List (Str × β)}, l.map Prod.fst = m.map Prod.fst → (m.map Prod.fst).Nodup → (∀ k ∈ m.map Prod.fst, lk l k = lk m k) → l = m
  | [], [], _, _, _ => rfl
  | [], _ :: _, h, _, _ => nomatch h
  | _ :: _, [], h, _, _ => nomatch h
  | (a, v) :: l, (b, w) :: m, h, nd, hk => by
    rw [List.map_cons, List.map_cons] at h
    injection h with h1 h2
    have h1 : a = b := h1
    subst h1
    rw [List.map_cons, List.nodup_cons] at nd
    have e0 := hk a (List.mem_cons_self ..)
    rw [lk_pos rfl, lk_pos rfl] at e0
    cases e0
    rw [keys_ext h2 nd.2 fun k hm => by
      have := hk k (List.mem_cons_of_mem _ hm)
      have hne : ¬ a = k := fun z => nd.1 (z ▸ hm)
      rwa [lk_neg hne, lk_neg hne] at this]
def RelS (l : List (Str × Option Str)) (m : List (Str × Str)) (pend : List Str) : Prop := l.map Prod.fst = m.map Prod.fst ∧ (m.map Prod.fst).Nodup ∧ ∀ k ∈ m.map Prod.fst, k ∈ pend ∨ lk l k = (lk m k).map some
theorem RelS.pt {l : List (Str × Option Str)} {m : List (Str × Str)} {x : Str} {pend : List Str} (h : RelS l m (x :: pend)) (hx : x ∈ m.map Prod.fst) (n : Str) : RelS (pt l x (some n)) (pt m x n) pend := by
  obtain ⟨a, b, c⟩ := h
  have k1 := keys_pt (v := some n) (show x ∈ l.map Prod.fst by rw [a]; exact hx)
  have k2 := keys_pt (v := n) hx
  refine ⟨by rw [k1, k2, a], by rw [k2]; exact b, fun k hk => ?_⟩
  rw [k2] at hk
  rw [lk_pt, lk_pt]
  by_cases e : k = x
  · rw [if_pos e, if_pos e]; exact .inr rfl
  · rw [if_neg e, if_neg e]
    rcases c k hk with z | z
    · rcases List.mem_cons.mp z with z | z
      · exact absurd z e
      · exact .inl z
    · exact .inr z
theorem keys_drs {β : Type} {x : Str} : ∀ (l : List (Str × β)), (dr l x).map Prod.fst = (l.map Prod.fst).filter fun k => decide (k ≠ x) := fun l => by
  unfold dr
  rw [List.filter_map]
  rfl
theorem RelS.dr {l : List (Str × Option Str)} {m : List (Str × Str)} {x : Str} {pend : List Str} (h : RelS l m (x :: pend)) : RelS (dr l x) (dr m x) pend := by
  obtain ⟨a, b, c⟩ := h
  refine ⟨by rw [keys_drs, keys_drs, a], by rw [keys_drs]; exact b.sublist List.filter_sublist, fun k hk => ?_⟩
  rw [keys_drs] at hk
  obtain ⟨h1, h2⟩ := List.mem_filter.mp hk
  have h2 := of_decide_eq_true h2
  rw [lk_dr h2, lk_dr h2]
  rcases c k h1 with z | z
  · rcases List.mem_cons.mp z with z | z
    · exact absurd z h2
    · exact .inl z
  · exact .inr z
theorem RelS.end' {l : List (Str × Option Str)} {m : List (Str × Str)} (h : RelS l m []) : onV gS l = m := by
  obtain ⟨a, b, c⟩ := h
  refine keys_ext (by unfold onV; rw [List.map_map]; exact a) b fun k hk => ?_
  rw [lk_onV]
  rcases c k hk with z | z
  · exact nomatch z
  · rw [z]
    cases lk m k <;> rfl
/-- what a move writes -/
def oldS (h : HS) (x : Str) : Str := gS (lk h.stand x).join
def lostE (p : Str × Str) : En := .lost p.1 p.2
def movedE (p : (Str × Str) × Str) : En := .moved p.1.1 p.1.2 p.2
def moveE (h : HS) (xs : List Str) : List En :=
  if liveH { h with stand := unset h.stand xs } = [] then (xs.map fun x => (x, oldS h x)).map lostE
  else ((xs.map fun x => (x, oldS h x)).zip (goesA (liveH { h with stand := unset h.stand xs }) h.extra xs.length)).map movedE
theorem run_lost : ∀ {ps : List (Str × Str)} {h : HS} {q : QS}, RelS h.stand q.stand (ps.map Prod.fst) → (ps.map Prod.fst).Nodup → (∀ p ∈ ps, lk q.stand p.1 = some p.2) →
    ∃ q', runQ q (ps.map lostE) = some q' ∧ RelS ((ps.map fun p => (p.1, some p.2)).foldl lostStep h).stand q'.stand [] ∧ q'.rows = q.rows ∧ ((ps.map fun p => (p.1, some p.2)).foldl lostStep h).log = h.log ++ (ps.map lostE).map enD
  | [], h, q, r, _, _ => ⟨q, rfl, r, rfl, (List.append_nil _).symm⟩
  | p :: ps, h, q, r, nd, hp => by
    have nd' := List.nodup_cons.mp nd
    have e0 := hp p (List.mem_cons_self ..)
    obtain ⟨q', a, b, c, d⟩ := run_lost (ps := ps) (h := lostStep h (p.1, some p.2)) (q := takeQ q (lostE p)) (RelS.dr r) nd'.2 fun p' hp' => by
      show lk (dr q.stand p.1) p'.1 = _
      rw [lk_dr fun z : p'.1 = p.1 => nd'.1 (by rw [← z]; exact List.mem_map.mpr ⟨p', hp', rfl⟩)]
      exact hp p' (List.mem_cons_of_mem _ hp')
    refine ⟨q', ?_, b, c, ?_⟩
    · show (if canQ q (lostE p) = true then runQ (takeQ q (lostE p)) (ps.map lostE) else none) = _
      rw [if_pos (show canQ q (lostE p) = true from decide_eq_true e0)]
      exact a
    · show ((ps.map fun p => (p.1, some p.2)).foldl lostStep (lostStep h (p.1, some p.2))).log = _
      rw [d]
      show (h.log ++ [_]) ++ _ = _
      rw [List.append_assoc]; rfl
theorem run_moved : ∀ {ps : List ((Str × Str) × Str)} {h : HS} {q : QS}, RelS h.stand q.stand (ps.map fun p => p.1.1) → (ps.map fun p => p.1.1).Nodup → (∀ p ∈ ps, (lk q.stand p.1.1 = some p.1.2 ∧ p.2 ≠ p.1.2) ∧ liveQ q p.2 = true) →
    ∃ q', runQ q (ps.map movedE) = some q' ∧ RelS ((ps.map fun p => ((p.1.1, some p.1.2), p.2)).foldl movedStep h).stand q'.stand [] ∧ q'.rows = q.rows ∧ ((ps.map fun p => ((p.1.1, some p.1.2), p.2)).foldl movedStep h).log = h.log ++ (ps.map movedE).map enD
  | [], h, q, r, _, _ => ⟨q, rfl, r, rfl, (List.append_nil _).symm⟩
  | p :: ps, h, q, r, nd, hp => by
    have nd' := List.nodup_cons.mp nd
    obtain ⟨⟨e0, e1⟩, e2⟩ := hp p (List.mem_cons_self ..)
    have hm : p.1.1 ∈ q.stand.map Prod.fst := List.mem_map.mpr ⟨_, mem_lk e0, rfl⟩
    obtain ⟨q', a, b, c, d⟩ := run_moved (ps := ps) (h := movedStep h ((p.1.1, some p.1.2), p.2)) (q := takeQ q (movedE p)) (RelS.pt r hm p.2) nd'.2 fun p' hp' => by
      have hne : ¬ p'.1.1 = p.1.1 := fun z => nd'.1 (by show p.1.1 ∈ _; rw [← z]; exact List.mem_map.mpr ⟨p', hp', rfl⟩)
      obtain ⟨⟨f0, f1⟩, f2⟩ := hp p' (List.mem_cons_of_mem _ hp')
      exact ⟨⟨by show lk (pt q.stand p.1.1 p.2) p'.1.1 = _; rw [lk_pt, if_neg hne]; exact f0, f1⟩, f2⟩
    refine ⟨q', ?_, b, c, ?_⟩
    · show (if canQ q (movedE p) = true then runQ (takeQ q (movedE p)) (ps.map movedE) else none) = _
      rw [if_pos (show canQ q (movedE p) = true by show (decide (lk q.stand p.1.1 = some p.1.2) && (!decide (p.2 = p.1.2) && liveQ q p.2)) = true; rw [decide_eq_true e0, decide_eq_false e1, e2]; rfl)]
      exact a
    · show ((ps.map fun p => ((p.1.1, some p.1.2), p.2)).foldl movedStep (movedStep h ((p.1.1, some p.1.2), p.2))).log = _
      rw [d]
      show (h.log ++ [_]) ++ _ = _
      rw [List.append_assoc]; rfl
theorem lk_unset {x : Str} : ∀ {xs : List Str} {st : List (Str × Option Str)}, x ∉ xs → lk (unset st xs) x = lk st x
  | [], _, _ => rfl
  | y :: xs, st, h => by
    show lk (unset (pt st y none) xs) x = _
    rw [lk_unset fun z => h (List.mem_cons_of_mem _ z), lk_pt, if_neg fun z : x = y => h (by rw [z]; exact List.mem_cons_self ..)]
section
variable {U : List Str} {h : HS} {k : Nat}
theorem old_some (i : HInv U h k) {x : Str} (hx : x ∈ h.stand.map Prod.fst) : lk h.stand x = some (some (oldS h x)) ∧ (lk h.stand x).join = some (oldS h x) := by
  obtain ⟨v, hv⟩ := lk_some hx
  obtain ⟨_, n, hn, _⟩ := i.stand _ (mem_lk hv)
  have hn : v = some n := hn
  subst hn
  have e : oldS h x = n := by unfold oldS; rw [hv]; rfl
  rw [e, hv]
  exact ⟨rfl, rfl⟩
theorem zip_selfm {α β : Type} (f : α → β) : ∀ xs : List α, xs.zip (xs.map f) = xs.map fun x => (x, f x)
  | [] => rfl
  | x :: xs => by show (x, f x) :: xs.zip (xs.map f) = (x, f x) :: xs.map fun x => (x, f x); rw [zip_selfm f xs]
theorem olds_some (i : HInv U h k) {xs : List Str} (hin : ∀ x ∈ xs, x ∈ h.stand.map Prod.fst) : xs.zip (oldsH h xs) = (xs.map fun x => (x, oldS h x)).map fun p => (p.1, some p.2) := by
  unfold oldsH
  rw [zip_selfm, List.map_map]
  exact List.map_congr_left fun x hx => by show (x, (lk h.stand x).join) = (x, some (oldS h x)); rw [(old_some i (hin x hx)).2]
theorem live_q (nd : (h.rows.map RowS.name).Nodup) {g : Str} (hg : g ∈ (liveH h).map (·.1)) : liveQ (qOf h) g = true := by
  obtain ⟨p, hp, rfl⟩ := List.mem_map.mp hg
  rw [liveH_rows] at hp
  obtain ⟨r, hr, rfl⟩ := List.mem_map.mp hp
  obtain ⟨h1, h2⟩ := List.mem_filter.mp hr
  obtain ⟨j, hj⟩ := List.getElem?_of_mem h1
  unfold liveQ
  show (match qAt (h.rows.map qr) r.name with | some p => p.2.well && !p.2.dr | none => false) = true
  rw [qAt_one (rowAt_of nd hj)]
  exact h2
theorem live_names (h : HS) (st : List (Str × Option Str)) : (liveH { h with stand := st }).map (·.1) = (liveH h).map (·.1) := by
  rw [liveH_rows, liveH_rows, List.map_map, List.map_map]
  rfl
theorem lsx_st (i : HInv U h k) (u : UOk U) (st : List (Str × Option Str)) : sxOk (liveH { h with stand := st }) := fun p hp => by
  rw [liveH_rows] at hp
  obtain ⟨r, hr, rfl⟩ := List.mem_map.mp hp
  obtain ⟨⟨g1, g2, g3, g4⟩, _⟩ := i.rows r (List.mem_filter.mp hr).1
  exact ⟨u.nm _ g1, (u.nm _ g2).1, g3, g4, Int.natCast_nonneg _⟩
theorem move_run (i : HInv U h k) (u : UOk U) {xs : List Str} (nd : xs.Nodup) (hin : ∀ x ∈ xs, x ∈ h.stand.map Prod.fst)
    (hne : ∀ p ∈ (xs.map fun x => (x, oldS h x)).zip (goesA (liveH { h with stand := unset h.stand xs }) h.extra xs.length), p.2 ≠ p.1.2) :
    (moveH h xs).log = h.log ++ (moveE h xs).map enD ∧ runQ (qOf h) (moveE h xs) = some (qOf (moveH h xs)) := by
  obtain ⟨h1, hh1⟩ : ∃ z : HS, z = { h with stand := unset h.stand xs } := ⟨_, rfl⟩
  have hmv : moveH h xs = if liveH h1 = [] then (xs.zip (oldsH h xs)).foldl lostStep h1 else ((xs.zip (oldsH h xs)).zip (goesA (liveH h1) h.extra xs.length)).foldl movedStep h1 := by rw [hh1]; rfl
  have hme : moveE h xs = if liveH h1 = [] then (xs.map fun x => (x, oldS h x)).map lostE else ((xs.map fun x => (x, oldS h x)).zip (goesA (liveH h1) h.extra xs.length)).map movedE := by rw [hh1]; rfl
  have hlv := lsx_st i u (unset h.stand xs)
  have hnm : (liveH h1).map (·.1) = (liveH h).map (·.1) := by rw [hh1]; exact live_names h _
  rw [← hh1] at hne hlv
  have hl1 : h1.log = h.log := by rw [hh1]
  have hr1 : h1.rows = h.rows := by rw [hh1]
  have hk : (unset h.stand xs).map Prod.fst = h.stand.map Prod.fst := keys_unset hin
  have hq : (qOf h).stand.map Prod.fst = h.stand.map Prod.fst := by show (onV gS h.stand).map Prod.fst = _; unfold onV; rw [List.map_map]; rfl
  have rel : RelS h1.stand (qOf h).stand xs := by
    refine ⟨by rw [hq, hh1]; exact hk, by rw [hq]; exact i.snd, fun y hy => ?_⟩
    rw [hq] at hy
    by_cases c : y ∈ xs
    · exact .inl c
    · refine .inr ?_
      rw [hh1]
      show lk (unset h.stand xs) y = (lk (onV gS h.stand) y).map some
      rw [lk_unset c, lk_onV, (old_some i hy).1]
      rfl
  have hfst : (xs.map fun x => (x, oldS h x)).map Prod.fst = xs := by rw [List.map_map]; exact List.map_id xs
  have hlk : ∀ p ∈ xs.map (fun x => (x, oldS h x)), lk (qOf h).stand p.1 = some p.2 := fun p hp => by
    obtain ⟨x, hx, rfl⟩ := List.mem_map.mp hp
    show lk (onV gS h.stand) x = some (oldS h x)
    rw [lk_onV, (old_some i (hin x hx)).1]
    rfl
  rw [hmv, hme, olds_some i hin]
  split
  · obtain ⟨q', a, b, c, d⟩ := run_lost (ps := xs.map fun x => (x, oldS h x)) (h := h1) (q := qOf h) (by rw [hfst]; exact rel) (by rw [hfst]; exact nd) hlk
    refine ⟨by rw [d, hl1], a.trans ?_⟩
    have hrr := (lost_same ((xs.map fun x => (x, oldS h x)).map fun p => (p.1, some p.2)) h1).1.1
    unfold qOf
    rw [hrr, hr1, RelS.end' b, ← show q'.rows = h.rows.map qr from c]
  · rename_i hn
    obtain ⟨gl, gm⟩ := goes_ok hlv hn i.extra.1 xs.length
    have hz : ((xs.map fun x => (x, oldS h x)).zip (goesA (liveH h1) h.extra xs.length)).map (fun p => p.1.1) = xs := by
      have e : ((xs.map fun x => (x, oldS h x)).zip (goesA (liveH h1) h.extra xs.length)).map Prod.fst = xs.map fun x => (x, oldS h x) := List.map_fst_zip (by rw [List.length_map, gl]; omega)
      have e2 : ((xs.map fun x => (x, oldS h x)).zip (goesA (liveH h1) h.extra xs.length)).map (fun p => p.1.1) = (((xs.map fun x => (x, oldS h x)).zip (goesA (liveH h1) h.extra xs.length)).map Prod.fst).map Prod.fst := by rw [List.map_map]; rfl
      rw [e2, e, hfst]
    obtain ⟨q', a, b, c, d⟩ := run_moved (ps := (xs.map fun x => (x, oldS h x)).zip (goesA (liveH h1) h.extra xs.length)) (h := h1) (q := qOf h) (by rw [hz]; exact rel) (by rw [hz]; exact nd) fun p hp => ⟨⟨hlk _ (List.of_mem_zip hp).1, hne p hp⟩, live_q i.nd (by rw [← hnm]; exact gm _ (List.of_mem_zip hp).2)⟩
    rw [List.zip_map_left]
    have hf : (Prod.map (fun p : Str × Str => (p.1, some p.2)) id : (Str × Str) × Str → (Str × Option Str) × Str) = fun p => ((p.1.1, some p.1.2), p.2) := rfl
    rw [hf]
    refine ⟨by rw [d, hl1], a.trans ?_⟩
    have hrr := (moved_same (((xs.map fun x => (x, oldS h x)).zip (goesA (liveH h1) h.extra xs.length)).map fun p => ((p.1.1, some p.1.2), p.2)) h1).1.1
    unfold qOf
    rw [hrr, hr1, RelS.end' b, ← show q'.rows = h.rows.map qr from c]
/-- all who stand at some that are not live -/
theorem allMove_run (i : HInv U h k) (u : UOk U) {ns : List Str} (hns : ∀ n ∈ ns, n ∉ (liveH h).map (·.1)) :
    (allMoveH h ns).log = h.log ++ (moveE h (atH h ns)).map enD ∧ runQ (qOf h) (moveE h (atH h ns)) = some (qOf (allMoveH h ns)) := by
  obtain ⟨n1, n2, n3⟩ := at_in i ns
  refine move_run i u n1 n2 fun p hp e => ?_
  obtain ⟨x, hx, ex⟩ := List.mem_map.mp (List.of_mem_zip hp).1
  have ho : oldS h x ∈ ns := by
    obtain ⟨y, hy, rfl⟩ := List.mem_map.mp hx
    obtain ⟨h1, h2⟩ := List.mem_filter.mp hy
    obtain ⟨_, m, hm, _⟩ := i.stand y h1
    have h3 := lk_mem i.snd (show (y.1, y.2) ∈ h.stand from h1)
    have : oldS h y.1 = m := by unfold oldS; rw [h3, hm]; rfl
    rw [this]
    rw [hm] at h2
    exact of_decide_eq_true h2
  by_cases hl : liveH { h with stand := unset h.stand (atH h ns) } = []
  · have : goesA (liveH { h with stand := unset h.stand (atH h ns) }) h.extra (atH h ns).length = [] := by
      rw [hl]
      unfold goesA spotsA
      cases (atH h ns).length with
      | zero => rfl
      | succ m => rfl
    rw [this, List.zip_nil_right] at hp
    exact nomatch hp
  · obtain ⟨gl, gm⟩ := goes_ok (lsx_st i u _) hl i.extra.1 (atH h ns).length
    have h4 := gm _ (List.of_mem_zip hp).2
    rw [live_names] at h4
    refine hns _ ?_ h4
    rw [e, ← ex]
    exact ho
end
end SL

/-! evenings: who goes, who stays; what a deed writes -/
namespace SL
open PySem PySem.Spec PyProof.Rows L2
theorem unset_map : ∀ {xs : List Str} {st : List (Str × Option Str)}, (∀ x ∈ xs, x ∈ st.map Prod.fst) → unset st xs = st.map fun a => if a.1 ∈ xs then (a.1, none) else a
  | [], st, _ => by
    exact ((List.map_congr_left fun a _ => (if_neg (by simp) : (if a.1 ∈ ([] : List Str) then (a.1, none) else a) = id a)).trans (List.map_id st)).symm
  | x :: xs, st, h => by
    have hx := h x (List.mem_cons_self ..)
    have hp : pt st x none = st.map fun a => if a.1 = x then (a.1, none) else a := by
      unfold pt
      rw [any_lk]
      obtain ⟨v, hv⟩ := lk_some hx
      rw [hv]
      rfl
    show unset (pt st x none) xs = _
    rw [unset_map (fun y hy => by rw [keys_pt hx]; exact h y (List.mem_cons_of_mem _ hy)), hp, List.map_map]
    refine List.map_congr_left fun a _ => ?_
    obtain ⟨ak, av⟩ := a
    by_cases c : ak = x
    · subst c; simp
    · simp [c]
theorem there_unset' (xs : List Str) (n : Str) : ∀ st : List (Str × Option Str), ((st.map fun a => if a.1 ∈ xs then (a.1, none) else a).filter fun x => decide (x.2 = some n)).map Prod.fst = ((st.filter fun x => decide (x.2 = some n)).map Prod.fst).filter fun y => !decide (y ∈ xs)
  | [] => rfl
  | (a, v) :: st => by
    have ih := there_unset' xs n st
    rw [List.map_cons, List.filter_cons, List.filter_cons]
    by_cases c : a ∈ xs
    · rw [if_pos c, if_neg (by simp)]
      by_cases e : v = some n
      · rw [if_pos (decide_eq_true e), List.map_cons, List.filter_cons, if_neg (by simp [c])]; exact ih
      · rw [if_neg (by simp [e])]; exact ih
    · rw [if_neg c]
      by_cases e : v = some n
      · rw [if_pos (decide_eq_true e), if_pos (decide_eq_true e), List.map_cons, List.map_cons, List.filter_cons, if_pos (by simp [c]), ih]
      · rw [if_neg (by simp [e]), if_neg (by simp [e])]; exact ih
theorem there_unset {h : HS} {xs : List Str} (hin : ∀ x ∈ xs, x ∈ h.stand.map Prod.fst) (n : Str) : thereH { h with stand := unset h.stand xs } n = (thereH h n).filter fun y => !decide (y ∈ xs) := by
  unfold thereH
  show ((unset h.stand xs).filter _).map Prod.fst = _
  rw [unset_map hin]
  exact there_unset' xs n h.stand
theorem filter_out {A B : List Str} (nd : (A ++ B).Nodup) {q : Str → Bool} (h1 : ∀ y ∈ A ++ B, q y = true ↔ y ∉ B) : (A ++ B).filter q = A := by
  have nd := List.nodup_append.mp nd
  rw [List.filter_append, List.filter_eq_self.mpr fun y hy => (h1 y (List.mem_append_left _ hy)).mpr fun z => nd.2.2 y hy y z rfl, List.filter_eq_nil_iff.mpr fun y hy e => (h1 y (List.mem_append_right _ hy)).mp e hy, List.append_nil]
theorem filter_drop {l : List Str} (nd : l.Nodup) (c : Nat) {q : Str → Bool} (h1 : ∀ y ∈ l, q y = true ↔ y ∉ l.drop c) : l.filter q = l.take c := by
  have e := List.take_append_drop c l
  have := filter_out (A := l.take c) (B := l.drop c) (q := q) (by rw [e]; exact nd) (by rw [e]; exact h1)
  rwa [e] at this
theorem deal_room {ws caps : List Int} : ∀ (m : Nat) (now : List Int) {p : Nat}, p ∈ dealD ws caps m now → now.getD p 0 < caps.getD p 0
  | 0, _, p, h => nomatch h
  | m + 1, now, p, h => by
    unfold dealD at h
    cases e : nextD now ws caps with
    | none => rw [e] at h; exact nomatch h
    | some p0 =>
      rw [e] at h
      have hn := next_in e
      rcases List.mem_cons.mp h with z | z
      · rw [z]; exact hn.2
      · have := deal_room m _ z
        by_cases c : p = p0
        · rw [c]; exact hn.2
        · have e2 : (now.set p0 (now.getD p0 0 + 1)).getD p 0 = now.getD p 0 := by
            simp only [List.getD_eq_getElem?_getD]
            rw [List.getElem?_set_ne (Ne.symm c)]
          rw [e2] at this
          exact this
section
variable {U : List Str} {h : HS} {k : Nat}
abbrev liveL (h : HS) : List RowS := h.rows.filter fun r => r.well && !r.dr
def lvL (h : HS) : List (Addr × RowS) := (liveL h).map fun r => ((default : Addr), r)
theorem lv_live (h : HS) : liveH h = (lvL h).map (sxM h) := by
  rw [liveH_rows]; unfold lvL; rw [List.map_map]; rfl
theorem lvL_nd (nd : (h.rows.map RowS.name).Nodup) : ((lvL h).map fun x => x.2.name).Nodup := by
  unfold lvL
  rw [List.map_map]
  exact nd.sublist (List.filter_sublist.map _)
abbrev manyE (h : HS) : Int := (heldL' (liveH h)).sum
abbrev wholeE (h : HS) : Int := ((liveH h).map fun x => x.2.2.1).sum
abbrev capE (h : HS) (r : RowS) : Int := capA (manyE h) r.wt (wholeE h) h.extra
def keepE (h : HS) (r : RowS) : Nat := min (heldH h r.name) (capE h r).toNat
theorem sum_nn' {α : Type} {f : α → Int} : ∀ {l : List α}, (∀ x ∈ l, 0 ≤ f x) → 0 ≤ (l.map f).sum
  | [], _ => Int.le_refl _
  | x :: l, h => by
    rw [List.map_cons, List.sum_cons]
    have := h x (List.mem_cons_self ..)
    have := sum_nn' fun y hy => h y (List.mem_cons_of_mem _ hy)
    omega
theorem many_nn (h : HS) : 0 ≤ manyE h := by
  show 0 ≤ (heldL' (liveH h)).sum
  unfold heldL'
  refine sum_nn' fun x hx => ?_
  rw [liveH_rows] at hx
  obtain ⟨r, _, rfl⟩ := List.mem_map.mp hx
  exact Int.natCast_nonneg _
theorem whole_nn (i : HInv U h k) (u : UOk U) : 0 ≤ wholeE h := by
  refine sum_nn' fun x hx => ?_
  have := (lsx_of i u x hx).2.2.1
  omega
theorem cap_nn {many wt whole extra : Int} (h1 : 0 ≤ many) (h2 : 0 ≤ wt) (h3 : 0 < whole) (h4 : 0 ≤ extra) : 0 ≤ capA many wt whole extra := by
  unfold capA
  have h5 : 0 ≤ many * wt * (100 + extra) := Int.mul_nonneg (Int.mul_nonneg h1 h2) (by omega)
  exact Int.ediv_nonneg (by omega) (by omega)
theorem whole_pos (i : HInv U h k) (u : UOk U) {r : RowS} (hr : r ∈ liveL h) : 0 < wholeE h := by
  have key : ∀ l : List Sx, (∀ p ∈ l, 1 ≤ p.2.2.1) → l ≠ [] → 0 < (l.map fun x => x.2.2.1).sum := fun l hp hne => by
    cases l with
    | nil => exact absurd rfl hne
    | cons y l =>
      rw [List.map_cons, List.sum_cons]
      have a1 := hp y (List.mem_cons_self ..)
      have a2 : 0 ≤ (l.map fun x : Sx => x.2.2.1).sum := sum_nn' fun p hq => by have := hp p (List.mem_cons_of_mem _ hq); omega
      omega
  refine key _ (fun p hp => (lsx_of i u p hp).2.2.1) fun z => ?_
  have : sxH h r ∈ liveH h := by rw [liveH_rows]; exact List.mem_map.mpr ⟨r, hr, rfl⟩
  rw [z] at this
  exact nomatch this
theorem capE_nn (i : HInv U h k) (u : UOk U) {r : RowS} (hr : r ∈ liveL h) : 0 ≤ capE h r := by
  have h1 := (i.rows r (List.mem_filter.mp hr).1).1.2.2
  exact cap_nn (many_nn h) (by omega) (whole_pos i u hr) i.extra.1
/-- what goes of a live server's asks -/
theorem going_drop (i : HInv U h k) (u : UOk U) {r : RowS} (hr : r ∈ liveL h) : cutD (thereH h r.name) (some (min ((thereH h r.name).length : Int) (capA (manyE h) r.wt (wholeE h) h.extra))) none = (thereH h r.name).drop (keepE h r) := by
  have hc := capE_nn i u hr
  have e : min ((thereH h r.name).length : Int) (capA (manyE h) r.wt (wholeE h) h.extra) = ((keepE h r : Nat) : Int) := by
    rw [there_held]
    unfold keepE
    show min ((heldH h r.name : Nat) : Int) (capE h r) = _
    omega
  rw [e]
  exact cutD_from _ (by rw [there_held]; unfold keepE; omega)
theorem going_q (h : HS) : goingH h = goingQ h (manyE h) (wholeE h) (lvL h) := going_eq (lv_live h)
theorem mem_going (i : HInv U h k) (u : UOk U) {y : Str} : y ∈ goingH h ↔ ∃ r ∈ liveL h, y ∈ (thereH h r.name).drop (keepE h r) := by
  rw [going_q]
  unfold goingQ lvL
  rw [List.mem_flatMap]
  constructor
  · rintro ⟨x, hx, hy⟩
    obtain ⟨r, hr, rfl⟩ := List.mem_map.mp hx
    exact ⟨r, hr, by rw [← going_drop i u hr]; exact hy⟩
  · rintro ⟨r, hr, hy⟩
    exact ⟨_, List.mem_map.mpr ⟨r, hr, rfl⟩, by rw [← going_drop i u hr] at hy; exact hy⟩
theorem there_mem {y n : Str} : y ∈ thereH h n ↔ (y, some n) ∈ h.stand := by
  unfold thereH
  rw [List.mem_map]
  constructor
  · rintro ⟨z, hz, rfl⟩
    obtain ⟨z1, z2⟩ := List.mem_filter.mp hz
    have z2 := of_decide_eq_true z2
    rw [← z2]
    exact z1
  · exact fun z => ⟨_, List.mem_filter.mpr ⟨z, decide_eq_true rfl⟩, rfl⟩
theorem row_inj (nd : (h.rows.map RowS.name).Nodup) {r s : RowS} (hr : r ∈ h.rows) (hs : s ∈ h.rows) (e : r.name = s.name) : r = s := by
  obtain ⟨a, ha⟩ := List.getElem?_of_mem hr
  obtain ⟨b, hb⟩ := List.getElem?_of_mem hs
  have h1 := rowAt_of nd ha
  have h2 := rowAt_of nd hb
  rw [e, h2] at h1
  cases h1
  rfl
theorem mem_goers {y : Str} : y ∈ goersH h ↔ y ∈ h.stand.map Prod.fst ∧ y ∈ goingH h := by
  unfold goersH
  rw [List.mem_map, List.mem_map]
  constructor
  · rintro ⟨z, hz, rfl⟩
    obtain ⟨z1, z2⟩ := List.mem_filter.mp hz
    exact ⟨⟨z, z1, rfl⟩, of_decide_eq_true z2⟩
  · rintro ⟨⟨z, z1, rfl⟩, z2⟩
    exact ⟨z, List.mem_filter.mpr ⟨z1, decide_eq_true z2⟩, rfl⟩
theorem goers_at (i : HInv U h k) (u : UOk U) {r : RowS} (hr : r ∈ liveL h) {y : Str} (hy : y ∈ thereH h r.name) : y ∈ goersH h ↔ y ∈ (thereH h r.name).drop (keepE h r) := by
  rw [mem_goers, mem_going i u]
  constructor
  · rintro ⟨_, s, hs, h2⟩
    have l1 := lk_mem i.snd (there_mem.mp hy)
    have l2 := lk_mem i.snd (there_mem.mp (List.mem_of_mem_drop h2))
    rw [l1] at l2
    have e : r.name = s.name := Option.some.inj (Option.some.inj l2)
    rw [row_inj i.nd (List.mem_filter.mp hr).1 (List.mem_filter.mp hs).1 e]
    exact h2
  · exact fun z => ⟨List.mem_map.mpr ⟨_, there_mem.mp hy, rfl⟩, r, hr, z⟩
theorem there_nd (i : HInv U h k) (n : Str) : (thereH h n).Nodup := i.snd.sublist (List.filter_sublist.map _)
theorem goers_in : ∀ x ∈ goersH h, x ∈ h.stand.map Prod.fst := fun x hx => (mem_goers.mp hx).1
/-- what stays -/
theorem stay_there (i : HInv U h k) (u : UOk U) {r : RowS} (hr : r ∈ liveL h) : thereH { h with stand := unset h.stand (goersH h) } r.name = (thereH h r.name).take (keepE h r) := by
  rw [there_unset goers_in]
  refine filter_drop (there_nd i _) _ fun y hy => ?_
  rw [← goers_at i u hr hy]
  simp
theorem stay_held (i : HInv U h k) (u : UOk U) {r : RowS} (hr : r ∈ liveL h) : heldH { h with stand := unset h.stand (goersH h) } r.name = keepE h r := by
  rw [← there_held, stay_there i u hr, List.length_take, there_held]
  unfold keepE
  omega
theorem goers_len (i : HInv U h k) : (goersH h).length = (goingH h).length := (going_count i.nd i.snd (lv_live h) (lvL_nd i.nd)).symm
theorem stay_sum (i : HInv U h k) (u : UOk U) : ∀ {L : List RowS}, (∀ r ∈ L, r ∈ liveL h) → (L.map fun r => ((heldH { h with stand := unset h.stand (goersH h) } r.name : Nat) : Int)).sum + ((goingQ h (manyE h) (wholeE h) (L.map fun r => ((default : Addr), r))).length : Nat) = (L.map fun r => ((heldH h r.name : Nat) : Int)).sum
  | [], _ => rfl
  | r :: L, hL => by
    have ih := stay_sum i u fun r hr => hL r (List.mem_cons_of_mem _ hr)
    have hr := hL r (List.mem_cons_self ..)
    have e : (goingQ h (manyE h) (wholeE h) ((r :: L).map fun r => ((default : Addr), r))).length = (heldH h r.name - keepE h r) + (goingQ h (manyE h) (wholeE h) (L.map fun r => ((default : Addr), r))).length := by
      show (cutD (thereH h r.name) (some (min ((thereH h r.name).length : Int) (capA (manyE h) r.wt (wholeE h) h.extra))) none ++ goingQ h (manyE h) (wholeE h) (L.map fun r => ((default : Addr), r))).length = _
      rw [going_drop i u hr, List.length_append, List.length_drop, there_held]
    rw [e]
    simp only [List.map_cons, List.sum_cons]
    rw [stay_held i u hr]
    have : keepE h r ≤ heldH h r.name := by unfold keepE; omega
    omega
theorem held_rows (h : HS) : heldL' (liveH h) = (liveL h).map fun r => ((heldH h r.name : Nat) : Int) := by
  rw [liveH_rows]; unfold heldL'; rw [List.map_map]; rfl
theorem wts_rows (h : HS) : wtsL' (liveH h) = (liveL h).map fun r => r.wt := by
  rw [liveH_rows]; unfold wtsL'; rw [List.map_map]; rfl
theorem stay_many (i : HInv U h k) (u : UOk U) : (heldL' (liveH { h with stand := unset h.stand (goersH h) })).sum + ((goersH h).length : Nat) = manyE h := by
  have := stay_sum i u (L := liveL h) fun r hr => hr
  have e1 : (heldL' (liveH { h with stand := unset h.stand (goersH h) })).sum + ((goersH h).length : Nat) = ((liveL h).map fun r => ((heldH { h with stand := unset h.stand (goersH h) } r.name : Nat) : Int)).sum + ((goingQ h (manyE h) (wholeE h) ((liveL h).map fun r => ((default : Addr), r))).length : Nat) := by
    rw [held_rows, goers_len i, going_q]
    rfl
  have e2 : manyE h = ((liveL h).map fun r => ((heldH h r.name : Nat) : Int)).sum := by
    show (heldL' (liveH h)).sum = _
    rw [held_rows]
  rw [e1, this, e2]
/-- to whom one goes at an evening, nobody leaves there -/
theorem evening_ne (i : HInv U h k) (u : UOk U) : ∀ p ∈ ((goersH h).map fun x => (x, oldS h x)).zip (goesA (liveH { h with stand := unset h.stand (goersH h) }) h.extra (goersH h).length), p.2 ≠ p.1.2 := fun p hp e => by
  obtain ⟨x, hx, ex⟩ := List.mem_map.mp (List.of_mem_zip hp).1
  obtain ⟨kk, hk, eg⟩ := List.mem_map.mp (List.of_mem_zip hp).2
  obtain ⟨h1, hh1⟩ : ∃ z : HS, z = { h with stand := unset h.stand (goersH h) } := ⟨_, rfl⟩
  have hs := stay_many i u
  rw [← hh1] at hk eg hs
  have hL1 : liveL h1 = liveL h := by rw [hh1]
  unfold spotsA at hk
  rw [hs] at hk
  have hroom := deal_room _ _ hk
  have hin : kk < (liveL h).length := by
    by_cases c : kk < (liveL h).length
    · exact c
    · have z1 : (heldL' (liveH h1)).getD kk 0 = 0 := by rw [List.getD_eq_getElem?_getD, List.getElem?_eq_none (by rw [held_rows, List.length_map, hL1]; omega)]; rfl
      have z2 : (capsA (manyE h) (wtsL' (liveH h1)) h.extra).getD kk 0 = 0 := by unfold capsA; rw [List.getD_eq_getElem?_getD, List.getElem?_eq_none (by rw [List.length_map, wts_rows, List.length_map, hL1]; omega)]; rfl
      rw [z1, z2] at hroom
      omega
  obtain ⟨r, hr⟩ : ∃ r, (liveL h)[kk]? = some r := ⟨_, List.getElem?_eq_getElem hin⟩
  have hrm := List.mem_of_getElem? hr
  have z1 : (heldL' (liveH h1)).getD kk 0 = ((keepE h r : Nat) : Int) := by
    rw [List.getD_eq_getElem?_getD, held_rows, List.getElem?_map, hL1, hr, hh1]
    show ((heldH { h with stand := unset h.stand (goersH h) } r.name : Nat) : Int) = _
    rw [stay_held i u hrm]
  have z2 : (capsA (manyE h) (wtsL' (liveH h1)) h.extra).getD kk 0 = capE h r := by
    have ew : wtsL' (liveH h1) = wtsL' (liveH h) := by rw [wts_rows, wts_rows, hL1]
    unfold capsA
    rw [ew, List.getD_eq_getElem?_getD, List.getElem?_map, wts_rows, List.getElem?_map, hr]
    show capA (manyE h) r.wt ((liveL h).map fun r => r.wt).sum h.extra = capA (manyE h) r.wt (wholeE h) h.extra
    rw [← wts_rows]
    rfl
  rw [z1, z2] at hroom
  have hkeep : keepE h r = heldH h r.name := by unfold keepE at hroom ⊢; omega
  have hgr : p.2 = r.name := by
    rw [← eg]
    have : (liveH h1).getD kk ("", "", 0, false, false, 0) = sxH h1 r := by
      rw [liveH_rows, List.getD_eq_getElem?_getD, List.getElem?_map, show (h1.rows.filter fun r => r.well && !r.dr) = liveL h from hL1, hr]
      rfl
    rw [this]
    rfl
  have hold : oldS h x = r.name := by rw [← hgr, e, ← ex]
  have hst : x ∈ thereH h r.name := by
    rw [there_mem, ← hold]
    exact mem_lk (old_some i (goers_in x hx)).1
  have h3 := (goers_at i u hrm hst).mp hx
  rw [hkeep, ← there_held, List.drop_length] at h3
  exact nomatch h3
theorem goers_nd' (i : HInv U h k) : (goersH h).Nodup := i.snd.sublist (List.filter_sublist.map _)
theorem evening_run (i : HInv U h k) (u : UOk U) : (eveningH h).log = h.log ++ (moveE h (goersH h)).map enD ∧ runQ (qOf h) (moveE h (goersH h)) = some (qOf (eveningH h)) := by
  rw [evening_eq]
  exact move_run i u (goers_nd' i) goers_in (evening_ne i u)
end
end SL

/-! what a deed writes -/
namespace SL
open PySem PySem.Spec PyProof.Rows L2
def lookE (h : HS) (j : Nat) (r : RowS) (g : Bool) : List En :=
  if g = r.well then []
  else if (if r.well then h.fall else h.rise) = r.cnt + 1 then .word (!r.well) r.name :: (if r.well then moveE { h with rows := h.rows.set j { r with well := !r.well, cnt := 0 } } (atH h [r.name]) else [])
  else []
def dueE (h : HS) : Deed → List En
  | .put n z w => match rowAt h.rows n with
    | some _ => []
    | none => [.put n z w]
  | .weigh n w => match rowAt h.rows n with
    | some _ => [.weigh n w]
    | none => []
  | .drain n => match rowAt h.rows n with
    | some p => if p.2.dr then [] else [.drain n]
    | none => []
  | .fill n => match rowAt h.rows n with
    | some p => if p.2.dr then [.fill n] else []
    | none => []
  | .out n => match rowAt h.rows n with
    | some p => .out n :: moveE (outH0 h p.1 p.2) (atH h [n])
    | none => []
  | .look n g => match rowAt h.rows n with
    | some p => lookE h p.1 p.2 g
    | none => []
  | .falls z => if z ∈ h.rows.map RowS.zone then (fallenL h.rows z).map (En.word false) ++ moveE (fallsH0 h z) (atH h (fallenL h.rows z)) else []
  | .ask a z => match lk h.stand a with
    | some _ => []
    | none => if liveH h = [] then [] else [.opn a (gS (ledH h a z))]
  | .fin a => match lk h.stand a with
    | some (some n) => [.fin a n]
    | _ => []
  | .evening => moveE h (goersH h)
section
variable {U : List Str} {h : HS} {k : Nat}
theorem out_inv (i : HInv U h k) (u : UOk U) {j : Nat} {r : RowS} (e : h.rows[j]? = some r) : HInv U (outH0 h j r) (k + 1) := by
  have i1 : HInv U h (k + 1) := i.mono (Nat.le_succ k)
  obtain ⟨⟨a1, a2, a3⟩, a4, a5⟩ := i.rowOk e
  obtain ⟨l1, l2⟩ := i.addE (e := .tuple [.str "out", .str r.name]) ⟨sh_e2 (sh_w (by decide +kernel) (by decide +kernel)) (sh_nm (u.nm _ a1)), dep_tup (depA_cons dep_str (depA_cons dep_str depA_nil))⟩
  have hs := List.eraseIdx_sublist h.rows j
  exact ⟨fun x hx => i1.rows x (hs.subset hx), i.stand, fun x hx => i.last x ((drs_sub _ _).subset hx), by show (h.log ++ [_]).length ≤ _; omega, l2, i.size, i.extra, i.nd.sublist (hs.map _), i.snd, i.lnd.sublist ((drs_sub _ _).map _)⟩
abbrev turnH (h : HS) (j : Nat) (r : RowS) : HS := { h with rows := h.rows.set j { r with well := !r.well, cnt := 0 }, log := h.log ++ [.tuple [.str (wdA (!r.well)), .str r.name]] }
theorem turn_inv (i : HInv U h k) (u : UOk U) {j : Nat} {r : RowS} (e : h.rows[j]? = some r) : HInv U (turnH h j r) (k + 1) := by
  obtain ⟨⟨a1, a2, a3⟩, a4, a5⟩ := i.rowOk e
  obtain ⟨l1, l2⟩ := i.addE (e := .tuple [.str (wdA (!r.well)), .str r.name]) ⟨sh_e2 (by cases r.well <;> exact sh_w (by decide +kernel) (by decide +kernel)) (sh_nm (u.nm _ a1)), dep_tup (depA_cons dep_str (depA_cons dep_str depA_nil))⟩
  exact i.setR (r' := { r with well := !r.well, cnt := 0 }) e rfl ⟨⟨a2, a3⟩, Int.le_refl _, Int.natCast_nonneg _⟩ l1 l2
theorem falls_inv (i : HInv U h k) (u : UOk U) (z : Str) : HInv U (fallsH0 h z) (k + 1) := by
  have i1 : HInv U h (k + 1) := i.mono (Nat.le_succ k)
  have hlog := i.logs
  have hfl : (fallenL h.rows z).length ≤ 40 := by unfold fallenL; rw [List.length_map]; exact Nat.le_trans (List.length_filter_le _ _) (i.few u)
  have hl2 : (h.log ++ (fallenL h.rows z).map illD).length ≤ 81 * k + 40 := by rw [List.length_append, List.length_map]; omega
  refine ⟨fun x hx => ?_, i.stand, i.last, by show (h.log ++ _).length ≤ _; omega, fun e he => ?_, i.size, i.extra, ?_, i.snd, i.lnd⟩
  · obtain ⟨y, hy, rfl⟩ := List.mem_map.mp hx
    obtain ⟨a, b, c⟩ := i1.rows y hy
    refine ⟨⟨by rw [ill_name]; exact a.1, by rw [ill_zone.1]; exact a.2.1, by rw [ill_zone.2]; exact a.2.2⟩, ?_⟩
    unfold illR
    split
    · exact ⟨Int.le_refl _, Int.natCast_nonneg _⟩
    · exact ⟨b, c⟩
  · rcases List.mem_append.mp he with q | q
    · exact i.ents e q
    · obtain ⟨n, hn, rfl⟩ := List.mem_map.mp q
      obtain ⟨r, hr, rfl⟩ := List.mem_map.mp hn
      exact ⟨sh_e2 (sh_w (by decide +kernel) (by decide +kernel)) (sh_nm (u.nm _ (i.rows r (List.mem_filter.mp hr).1).1.1)), dep_tup (depA_cons dep_str (depA_cons dep_str depA_nil))⟩
  · show ((h.rows.map (illR z)).map RowS.name).Nodup
    rw [List.map_map]
    have : (RowS.name ∘ illR z) = RowS.name := funext fun r => ill_name
    rw [this]
    exact i.nd
theorem not_live {g : HS} {n : Str} (hn : ∀ r ∈ g.rows, r.name = n → (r.well && !r.dr) = false) : n ∉ (liveH g).map (·.1) := fun hm => by
  rw [liveH_rows, List.map_map] at hm
  obtain ⟨r, hr, e⟩ := List.mem_map.mp hm
  obtain ⟨h1, h2⟩ := List.mem_filter.mp hr
  rw [hn r h1 e] at h2
  exact nomatch h2
theorem set_name (nd : (h.rows.map RowS.name).Nodup) {j : Nat} {r r' s : RowS} (e : h.rows[j]? = some r) (hn : r'.name = r.name) (hs : s ∈ h.rows.set j r') (e2 : s.name = r.name) : s = r' := by
  obtain ⟨m, hm⟩ := List.getElem?_of_mem hs
  by_cases c : j = m
  · subst c
    rw [List.getElem?_set_self (by have := (List.getElem?_eq_some_iff.mp e).1; exact this)] at hm
    exact (Option.some.inj hm).symm
  · rw [List.getElem?_set_ne c] at hm
    have h1 := rowAt_of nd e
    have h2 := rowAt_of nd hm
    rw [e2, h1] at h2
    injection h2 with h2
    injection h2 with h2 _
    exact absurd h2 c
theorem erase_name (nd : (h.rows.map RowS.name).Nodup) {j : Nat} {r s : RowS} (e : h.rows[j]? = some r) (hs : s ∈ h.rows.eraseIdx j) : s.name ≠ r.name := fun e2 => by
  obtain ⟨m, hm⟩ := List.getElem?_of_mem hs
  rw [List.getElem?_eraseIdx] at hm
  have key : ∀ m', h.rows[m']? = some s → m' = j := fun m' hm' => by
    have h1 := rowAt_of nd e
    have h2 := rowAt_of nd hm'
    rw [e2, h1] at h2
    injection h2 with h2
    injection h2 with h2 _
    exact h2.symm
  split at hm
  · have := key _ hm; omega
  · have := key _ hm; omega
theorem led_live (h : HS) {a z n : Str} (hne : ledH h a z = some n) : n ∈ (liveH h).map (·.1) := by
  have key : ∀ p ∈ freeA (serversH h) h.extra, p.1 ∈ (liveH h).map (·.1) := fun p hp => List.mem_map.mpr ⟨p, (List.mem_filter.mp hp).1, rfl⟩
  unfold ledH at hne
  split at hne
  · rename_i c
    rw [hne] at c
    have c : n ∈ (freeA (serversH h) h.extra).map (·.1) := of_decide_eq_true c
    obtain ⟨p, hp, rfl⟩ := List.mem_map.mp c
    exact key p hp
  · obtain ⟨p, hp, rfl⟩ := chosen_of hne
    exact key p (some_sub hp)
theorem run_words {z : Str} : ∀ {rows : List RowS} {pre : List RowS} (st : List (Str × Str)), ((pre ++ rows).map RowS.name).Nodup →
    runQ ⟨(pre ++ rows).map qr, st⟩ ((fallenL rows z).map (En.word false)) = some ⟨(pre ++ rows.map (illR z)).map qr, st⟩
  | [], pre, st, nd => rfl
  | r :: rows, pre, st, nd => by
    have ih := run_words (z := z) (rows := rows) (pre := pre ++ [illR z r]) st (by
      rw [List.append_assoc, List.map_append]
      rw [List.map_append] at nd
      show (pre.map RowS.name ++ (illR z r).name :: rows.map RowS.name).Nodup
      rw [ill_name]
      exact nd)
    rw [List.append_assoc] at ih
    have ih : runQ ⟨(pre ++ illR z r :: rows).map qr, st⟩ ((fallenL rows z).map (En.word false)) = some ⟨(pre ++ illR z r :: rows.map (illR z)).map qr, st⟩ := by
      rw [List.append_assoc] at ih
      exact ih
    by_cases c : r.zone = z ∧ r.well = true
    · have e1 : fallenL (r :: rows) z = r.name :: fallenL rows z := by unfold fallenL; rw [List.filter_cons, if_pos (decide_eq_true c)]; rfl
      have e2 : illR z r = { r with well := false, cnt := 0 } := by unfold illR; rw [if_pos c]
      have e3 : rowAt (pre ++ r :: rows) r.name = some (pre.length, r) := rowAt_of nd (by rw [List.getElem?_append_right (Nat.le_refl _), Nat.sub_self]; rfl)
      rw [e1]
      show (if canQ ⟨(pre ++ r :: rows).map qr, st⟩ (.word false r.name) = true then runQ (takeQ ⟨(pre ++ r :: rows).map qr, st⟩ (.word false r.name)) ((fallenL rows z).map (En.word false)) else none) = _
      have hc : canQ ⟨(pre ++ r :: rows).map qr, st⟩ (.word false r.name) = true := by
        show (match qAt ((pre ++ r :: rows).map qr) r.name with | some p => !decide (p.2.well = false) | none => false) = true
        rw [qAt_one e3]
        show (!decide (r.well = false)) = true
        rw [c.2]; rfl
      have ht : takeQ ⟨(pre ++ r :: rows).map qr, st⟩ (.word false r.name) = ⟨(pre ++ illR z r :: rows).map qr, st⟩ := by
        show setQ ⟨(pre ++ r :: rows).map qr, st⟩ r.name (fun x => { x with well := false }) = _
        unfold setQ
        show (match qAt ((pre ++ r :: rows).map qr) r.name with | some p => _ | none => _) = _
        rw [qAt_one e3]
        show (⟨((pre ++ r :: rows).map qr).set pre.length _, st⟩ : QS) = _
        have : ((pre ++ r :: rows).map qr).set pre.length { qr r with well := false } = (pre ++ illR z r :: rows).map qr := by
          rw [e2, List.map_append, List.map_append, List.set_append_right _ _ (by rw [List.length_map]; exact Nat.le_refl _), List.length_map, Nat.sub_self]
          rfl
        rw [this]
      rw [if_pos hc, ht]
      exact ih
    · have e1 : fallenL (r :: rows) z = fallenL rows z := by unfold fallenL; rw [List.filter_cons, if_neg (by rw [decide_eq_false c]; exact Bool.false_ne_true)]
      have e2 : illR z r = r := by unfold illR; rw [if_neg c]
      rw [e2] at ih
      rw [e1, List.map_cons, e2]
      exact ih
theorem moveE_st {g h : HS} (xs : List Str) (hr : g.rows = h.rows) (hs : g.stand = h.stand) (he : g.extra = h.extra) : moveE g xs = moveE h xs := by
  have e1 : liveH { g with stand := unset g.stand xs } = liveH { h with stand := unset h.stand xs } := by
    rw [liveH_rows, liveH_rows]
    show (g.rows.filter _).map _ = (h.rows.filter _).map _
    rw [hr, hs]
    rfl
  have e2 : (fun x => (x, oldS g x)) = fun x => (x, oldS h x) := by unfold oldS; rw [hs]
  unfold moveE
  rw [e1, e2, he]
theorem atH_st {g h : HS} (ns : List Str) (hs : g.stand = h.stand) : atH g ns = atH h ns := by unfold atH; rw [hs]
/-- a deed's entries, and that they lead where the deed does -/
theorem due_run (i : HInv U h k) (u : UOk U) {d : Deed} (ok : DOk U d) : (dueH h d).log = h.log ++ (dueE h d).map enD ∧ runQ (qOf h) (dueE h d) = some (qOf (dueH h d)) := by
  have nil : h.log = h.log ++ ([] : List En).map enD ∧ runQ (qOf h) [] = some (qOf h) := ⟨(List.append_nil _).symm, rfl⟩
  have one : ∀ {g : HS} {e : En}, g.log = h.log ++ [enD e] → canQ (qOf h) e = true → takeQ (qOf h) e = qOf g → g.log = h.log ++ [e].map enD ∧ runQ (qOf h) [e] = some (qOf g) := fun a b c => ⟨a, by rw [runQ_one b, c]⟩
  cases d with
  | put n z wt =>
    show (match rowAt h.rows n with | some _ => h | none => putH h n z wt).log = h.log ++ (match rowAt h.rows n with | some _ => [] | none => [En.put n z wt]).map enD ∧ runQ (qOf h) (match rowAt h.rows n with | some _ => [] | none => [En.put n z wt]) = some (qOf (match rowAt h.rows n with | some _ => h | none => putH h n z wt))
    cases e : rowAt h.rows n with
    | some p => exact nil
    | none =>
      refine one rfl ?_ ?_
      · show (!(qAt (h.rows.map qr) n).isSome) = true
        rw [qAt_of, e]; rfl
      · show (⟨h.rows.map qr ++ [_], _⟩ : QS) = ⟨(h.rows ++ [_]).map qr, _⟩
        rw [List.map_append]; rfl
  | weigh n wt =>
    show (match rowAt h.rows n with | some p => weighH h p.1 p.2 wt | none => h).log = h.log ++ (match rowAt h.rows n with | some _ => [En.weigh n wt] | none => []).map enD ∧ runQ (qOf h) (match rowAt h.rows n with | some _ => [En.weigh n wt] | none => []) = some (qOf (match rowAt h.rows n with | some p => weighH h p.1 p.2 wt | none => h))
    cases e : rowAt h.rows n with
    | none => exact nil
    | some p =>
      obtain ⟨j, r⟩ := p
      have h2 := (rowAt_some e).2
      refine one (by show h.log ++ [.tuple [.str "weigh", .str r.name, .int wt]] = _; rw [h2]; rfl) ?_ ?_
      · show (qAt (h.rows.map qr) n).isSome = true
        rw [qAt_one e]; rfl
      · exact setQ_of (r' := { r with wt := wt }) (f := fun x => { x with wt := wt }) e rfl
  | drain n =>
    show (match rowAt h.rows n with | some p => drainH h p.1 p.2 | none => h).log = h.log ++ (match rowAt h.rows n with | some p => if p.2.dr then [] else [En.drain n] | none => []).map enD ∧ runQ (qOf h) (match rowAt h.rows n with | some p => if p.2.dr then [] else [En.drain n] | none => []) = some (qOf (match rowAt h.rows n with | some p => drainH h p.1 p.2 | none => h))
    cases e : rowAt h.rows n with
    | none => exact nil
    | some p =>
      obtain ⟨j, r⟩ := p
      have h2 := (rowAt_some e).2
      show (drainH h j r).log = h.log ++ (if r.dr then [] else [En.drain n]).map enD ∧ runQ (qOf h) (if r.dr then [] else [En.drain n]) = some (qOf (drainH h j r))
      unfold drainH
      split
      · exact nil
      · rename_i c
        refine one (by show h.log ++ [.tuple [.str "drain", .str r.name]] = _; rw [h2]; rfl) ?_ ?_
        · show (match qAt (h.rows.map qr) n with | some p => !p.2.dr | none => false) = true
          rw [qAt_one e]
          show (!r.dr) = true
          cases hd : r.dr with
          | true => exact absurd hd c
          | false => rfl
        · exact setQ_of (r' := { r with dr := true }) (f := fun x => { x with dr := true }) e rfl
  | fill n =>
    show (match rowAt h.rows n with | some p => fillH h p.1 p.2 | none => h).log = h.log ++ (match rowAt h.rows n with | some p => if p.2.dr then [En.fill n] else [] | none => []).map enD ∧ runQ (qOf h) (match rowAt h.rows n with | some p => if p.2.dr then [En.fill n] else [] | none => []) = some (qOf (match rowAt h.rows n with | some p => fillH h p.1 p.2 | none => h))
    cases e : rowAt h.rows n with
    | none => exact nil
    | some p =>
      obtain ⟨j, r⟩ := p
      have h2 := (rowAt_some e).2
      show (fillH h j r).log = h.log ++ (if r.dr then [En.fill n] else []).map enD ∧ runQ (qOf h) (if r.dr then [En.fill n] else []) = some (qOf (fillH h j r))
      unfold fillH
      split
      · rename_i c
        refine one (by show h.log ++ [.tuple [.str "fill", .str r.name]] = _; rw [h2]; rfl) ?_ ?_
        · show (match qAt (h.rows.map qr) n with | some p => p.2.dr | none => false) = true
          rw [qAt_one e]
          exact c
        · exact setQ_of (r' := { r with dr := false }) (f := fun x => { x with dr := false }) e rfl
      · exact nil
  | out n =>
    show (match rowAt h.rows n with | some p => outH h p.1 p.2 | none => h).log = h.log ++ (match rowAt h.rows n with | some p => En.out n :: moveE (outH0 h p.1 p.2) (atH h [n]) | none => []).map enD ∧ runQ (qOf h) (match rowAt h.rows n with | some p => En.out n :: moveE (outH0 h p.1 p.2) (atH h [n]) | none => []) = some (qOf (match rowAt h.rows n with | some p => outH h p.1 p.2 | none => h))
    cases e : rowAt h.rows n with
    | none => exact nil
    | some p =>
      obtain ⟨j, r⟩ := p
      obtain ⟨h1, h2⟩ := rowAt_some e
      have i2 := out_inv i u h1
      obtain ⟨a, b⟩ := allMove_run i2 u (ns := [r.name]) fun m hm => by
        rw [List.mem_singleton.mp hm]
        exact not_live fun s hs e2 => absurd e2 (erase_name i.nd h1 hs)
      have ea : atH (outH0 h j r) [r.name] = atH h [n] := (atH_st (g := outH0 h j r) (h := h) [r.name] rfl).trans (by rw [h2])
      rw [ea] at a b
      have ho : canQ (qOf h) (.out n) = true ∧ takeQ (qOf h) (.out n) = qOf (outH0 h j r) := by
        refine ⟨?_, ?_⟩
        · show (qAt (h.rows.map qr) n).isSome = true
          rw [qAt_one e]; rfl
        · show (match qAt (h.rows.map qr) n with | some p => ({ qOf h with rows := (h.rows.map qr).eraseIdx p.1 } : QS) | none => qOf h) = _
          rw [qAt_one e]
          show (⟨(h.rows.map qr).eraseIdx j, _⟩ : QS) = ⟨(h.rows.eraseIdx j).map qr, _⟩
          rw [erase_map]
          rfl
      refine ⟨?_, ?_⟩
      · show (outH h j r).log = _
        unfold outH
        rw [a]
        show (h.log ++ [.tuple [.str "out", .str r.name]]) ++ _ = h.log ++ (enD (.out n) :: _)
        rw [List.append_assoc, h2]
        rfl
      · show (if canQ (qOf h) (.out n) = true then runQ (takeQ (qOf h) (.out n)) (moveE (outH0 h j r) (atH h [n])) else none) = some (qOf (outH h j r))
        rw [if_pos ho.1, ho.2]
        exact b
  | look n g =>
    show (match rowAt h.rows n with | some p => lookH h p.1 p.2 g | none => h).log = h.log ++ (match rowAt h.rows n with | some p => lookE h p.1 p.2 g | none => []).map enD ∧ runQ (qOf h) (match rowAt h.rows n with | some p => lookE h p.1 p.2 g | none => []) = some (qOf (match rowAt h.rows n with | some p => lookH h p.1 p.2 g | none => h))
    cases e : rowAt h.rows n with
    | none => exact nil
    | some p =>
      obtain ⟨j, r⟩ := p
      obtain ⟨h1, h2⟩ := rowAt_some e
      show (lookH h j r g).log = h.log ++ (lookE h j r g).map enD ∧ runQ (qOf h) (lookE h j r g) = some (qOf (lookH h j r g))
      have same : ∀ c : Int, qOf { h with rows := h.rows.set j { r with cnt := c } } = qOf h := fun c => by
        show (⟨(h.rows.set j { r with cnt := c }).map qr, _⟩ : QS) = ⟨h.rows.map qr, _⟩
        have : (h.rows.set j { r with cnt := c }).map qr = h.rows.map qr := by
          rw [List.map_set]
          show (h.rows.map qr).set j (qr r) = _
          apply List.ext_getElem?
          intro m
          by_cases c : j = m
          · subst c
            rw [List.getElem?_set_self (by rw [List.length_map]; exact (List.getElem?_eq_some_iff.mp h1).1), List.getElem?_map, h1]
            rfl
          · rw [List.getElem?_set_ne c]
        rw [this]
      by_cases c1 : g = r.well
      · rw [lookH_same c1, show lookE h j r g = [] from if_pos c1, same 0]
        exact nil
      · by_cases c2 : (if r.well then h.fall else h.rise) = r.cnt + 1
        · have hw : canQ (qOf h) (.word (!r.well) r.name) = true ∧ takeQ (qOf h) (.word (!r.well) r.name) = qOf (turnH h j r) := by
            have e' : rowAt h.rows r.name = some (j, r) := by rw [h2]; exact e
            refine ⟨?_, ?_⟩
            · show (match qAt (h.rows.map qr) r.name with | some p => !decide (p.2.well = !r.well) | none => false) = true
              rw [qAt_one e']
              show (!decide (r.well = !r.well)) = true
              cases r.well <;> rfl
            · exact setQ_of (r' := { r with well := !r.well, cnt := 0 }) (f := fun x => { x with well := !r.well }) e' rfl
          have i2 := turn_inv i u h1
          rw [lookH_turn c1 c2, show lookE h j r g = .word (!r.well) r.name :: (if r.well then moveE { h with rows := h.rows.set j { r with well := !r.well, cnt := 0 } } (atH h [r.name]) else []) from by unfold lookE; rw [if_neg c1, if_pos c2]]
          cases hwl : r.well with
          | false =>
            rw [hwl] at hw
            rw [if_neg Bool.false_ne_true, if_neg Bool.false_ne_true]
            refine one rfl hw.1 ?_
            rw [hw.2]
            unfold turnH
            rw [hwl]
          | true =>
            rw [hwl] at hw
            rw [if_pos rfl, if_pos rfl]
            have e0 : turnH h j r = { h with rows := h.rows.set j { r with well := !true, cnt := 0 }, log := h.log ++ [.tuple [.str (wdA (!true)), .str r.name]] } := by unfold turnH; rw [hwl]
            obtain ⟨a, b⟩ := allMove_run i2 u (ns := [r.name]) fun m hm => by
              rw [List.mem_singleton.mp hm]
              exact not_live fun s hs e2 => by
                rw [set_name (r' := { r with well := !r.well, cnt := 0 }) i.nd h1 rfl hs e2]
                show ((!r.well) && !r.dr) = false
                rw [hwl]; rfl
            rw [e0] at a b
            have em : moveE { h with rows := h.rows.set j { r with well := !true, cnt := 0 }, log := h.log ++ [.tuple [.str (wdA (!true)), .str r.name]] } (atH { h with rows := h.rows.set j { r with well := !true, cnt := 0 }, log := h.log ++ [.tuple [.str (wdA (!true)), .str r.name]] } [r.name]) = moveE { h with rows := h.rows.set j { r with well := !true, cnt := 0 } } (atH h [r.name]) := by
              rw [atH_st (g := { h with rows := h.rows.set j { r with well := !true, cnt := 0 }, log := h.log ++ [.tuple [.str (wdA (!true)), .str r.name]] }) (h := h) [r.name] rfl]
              exact moveE_st _ rfl rfl rfl
            rw [em] at a b
            refine ⟨?_, ?_⟩
            · rw [a]
              show (h.log ++ [_]) ++ _ = _
              rw [List.append_assoc]
              rfl
            · show (if canQ (qOf h) (.word (!true) r.name) = true then runQ (takeQ (qOf h) (.word (!true) r.name)) _ else none) = _
              rw [if_pos hw.1, hw.2, e0]
              exact b
        · rw [lookH_less c1 c2, show lookE h j r g = [] from by unfold lookE; rw [if_neg c1, if_neg c2], same _]
          exact nil
  | falls z =>
    show (if z ∈ h.rows.map RowS.zone then fallsH h z else h).log = h.log ++ (if z ∈ h.rows.map RowS.zone then (fallenL h.rows z).map (En.word false) ++ moveE (fallsH0 h z) (atH h (fallenL h.rows z)) else []).map enD ∧ runQ (qOf h) (if z ∈ h.rows.map RowS.zone then (fallenL h.rows z).map (En.word false) ++ moveE (fallsH0 h z) (atH h (fallenL h.rows z)) else []) = some (qOf (if z ∈ h.rows.map RowS.zone then fallsH h z else h))
    split
    · have i2 := falls_inv i u z
      obtain ⟨a, b⟩ := allMove_run i2 u (ns := fallenL h.rows z) fun m hm => not_live fun s hs e2 => by
        obtain ⟨y, hy, rfl⟩ := List.mem_map.mp hs
        obtain ⟨w, hw, e3⟩ := List.mem_map.mp hm
        obtain ⟨hw1, hw2⟩ := List.mem_filter.mp hw
        have hw2 := of_decide_eq_true hw2
        rw [ill_name, ← e3] at e2
        rw [row_inj i.nd hy hw1 e2]
        unfold illR
        rw [if_pos hw2]
        rfl
      have ea : atH (fallsH0 h z) (fallenL h.rows z) = atH h (fallenL h.rows z) := atH_st _ rfl
      rw [ea] at a b
      refine ⟨?_, ?_⟩
      · show (allMoveH (fallsH0 h z) (fallenL h.rows z)).log = _
        rw [a]
        show (h.log ++ (fallenL h.rows z).map illD) ++ _ = _
        rw [List.map_append, List.append_assoc, List.map_map]
        rfl
      · refine runQ_two (q1 := qOf (fallsH0 h z)) ?_ b
        exact run_words (pre := []) (onV gS h.stand) i.nd
    · exact nil
  | ask a z =>
    show (match lk h.stand a with | some _ => h | none => if liveH h = [] then h else askH h a z).log = h.log ++ (match lk h.stand a with | some _ => [] | none => if liveH h = [] then [] else [En.opn a (gS (ledH h a z))]).map enD ∧ runQ (qOf h) (match lk h.stand a with | some _ => [] | none => if liveH h = [] then [] else [En.opn a (gS (ledH h a z))]) = some (qOf (match lk h.stand a with | some _ => h | none => if liveH h = [] then h else askH h a z))
    cases e : lk h.stand a with
    | some v => exact nil
    | none =>
      dsimp only
      split
      · exact nil
      · rename_i hne
        obtain ⟨n, hn, el⟩ := led_ok i u hne a z
        refine one (by show h.log ++ [.tuple [.str "open", .str a, oD (ledH h a z)]] = _; rw [el]; rfl) ?_ ?_
        · show (!(lk (onV gS h.stand) a).isSome && liveQ (qOf h) (gS (ledH h a z))) = true
          rw [lk_onV, e, el]
          exact live_q i.nd (led_live h el)
        · show (⟨_, pt (onV gS h.stand) a (gS (ledH h a z))⟩ : QS) = ⟨_, onV gS (pt h.stand a (ledH h a z))⟩
          rw [pt_onV]
          rfl
  | fin a =>
    show (match lk h.stand a with | some (some n) => endH h a n | _ => h).log = h.log ++ (match lk h.stand a with | some (some n) => [En.fin a n] | _ => []).map enD ∧ runQ (qOf h) (match lk h.stand a with | some (some n) => [En.fin a n] | _ => []) = some (qOf (match lk h.stand a with | some (some n) => endH h a n | _ => h))
    cases e : lk h.stand a with
    | none => exact nil
    | some v =>
      cases v with
      | none => exact nil
      | some n =>
        refine one rfl ?_ ?_
        · show decide (lk (onV gS h.stand) a = some n) = true
          rw [lk_onV, e]
          exact decide_eq_true rfl
        · show (⟨_, dr (onV gS h.stand) a⟩ : QS) = ⟨_, onV gS (dr h.stand a)⟩
          rw [dr_onV]
          rfl
  | evening => exact evening_run i u
/-- the log so far, read entry by entry -/
def LogOk (h : HS) : Prop := ∃ es, h.log = es.map enD ∧ runQ ⟨[], []⟩ es = some (qOf h)
theorem LogOk.due (l : LogOk h) (i : HInv U h k) (u : UOk U) {d : Deed} (ok : DOk U d) : LogOk (dueH h d) := by
  obtain ⟨es, e1, e2⟩ := l
  obtain ⟨a, b⟩ := due_run i u ok
  exact ⟨es ++ dueE h d, by rw [a, e1, List.map_append], runQ_two e2 b⟩
end
end SL

/-! what stands behind some entries: its cells -/
namespace SL
open PySem PySem.Spec PyProof.Rows L2
structure QA where
  p : Addr
  rl : Addr
  st : Addr
  qs : List Addr
def srowD (r : QR) : List PyData := [.str r.name, .str r.zone, .int r.wt, .str (wdA r.well), .bool r.dr]
def qF (a : QA) : List (Str × Sl) := [("rows", sv (.ref a.rl)), ("stand", sv (.ref a.st))]
def qR (C : Addr) (a : QA) (q : QS) : List Res := [rI a.p C (qF a), rRw a.rl (a.qs.zip (q.rows.map srowD)), rDs a.st (onV dS q.stand)]
structure QOk (a : QA) (q : QS) : Prop where
  len : a.qs.length = q.rows.length
  few : q.rows.length ≤ 100000
  asks : q.stand.length ≤ 100000
  nd : (q.rows.map QR.name).Nodup
  snd : (q.stand.map Prod.fst).Nodup
theorem qf_rows {a : QA} : lk (qF a) "rows" = some (sv (.ref a.rl)) := by rw [qF, lk_pos rfl]
theorem qf_stand {a : QA} : lk (qF a) "stand" = some (sv (.ref a.st)) := by rw [qF, lk_neg (by decide +kernel), lk_pos rfl]
theorem qf_none {a : QA} {m : Str} (h1 : m ≠ "rows") (h2 : m ≠ "stand") : lk (qF a) m = none := by rw [qF, lk_neg (Ne.symm h1), lk_neg (Ne.symm h2), lk_nil]
theorem qAt_some : ∀ {rows : List QR} {n : Str} {i : Nat} {r : QR}, qAt rows n = some (i, r) → rows[i]? = some r ∧ r.name = n
  | [], _, _, _, h => nomatch h
  | a :: t, n, i, r, h => by
    rw [qAt] at h
    by_cases c : a.name = n
    · rw [if_pos c] at h; cases h; exact ⟨rfl, c⟩
    · rw [if_neg c] at h
      cases e : qAt t n with
      | none => rw [e] at h; cases h
      | some p =>
        rw [e] at h
        obtain ⟨j, s⟩ := p
        cases h
        obtain ⟨g1, g2⟩ := qAt_some e
        exact ⟨g1, g2⟩
theorem qAt_none : ∀ {rows : List QR} {n : Str}, qAt rows n = none → n ∉ rows.map QR.name
  | [], _, _ => nofun
  | a :: t, n, h => by
    rw [qAt] at h
    by_cases c : a.name = n
    · rw [if_pos c] at h; cases h
    · rw [if_neg c] at h
      cases e : qAt t n with
      | some p => rw [e] at h; cases h
      | none =>
        intro hm
        rcases List.mem_cons.mp hm with z | z
        · exact c z.symm
        · exact qAt_none e z
theorem qAt_none' {rows : List QR} {n : Str} (h : ∀ r ∈ rows, r.name ≠ n) : qAt rows n = none := by
  cases e : qAt rows n with
  | none => rfl
  | some p =>
    obtain ⟨h1, h2⟩ := qAt_some (i := p.1) (r := p.2) e
    exact absurd h2 (h _ (List.mem_of_getElem? h1))
theorem qAt_of' : ∀ {rows : List QR} {i : Nat} {r : QR}, (rows.map QR.name).Nodup → rows[i]? = some r → qAt rows r.name = some (i, r)
  | [], _, _, _, h => nomatch h
  | a :: t, 0, r, _, h => by cases h; rw [qAt, if_pos rfl]
  | a :: t, i + 1, r, nd, h => by
    rw [List.map_cons, List.nodup_cons] at nd
    have h : t[i]? = some r := h
    rw [qAt, if_neg fun z : a.name = r.name => nd.1 (by rw [z]; exact List.mem_map.mpr ⟨r, List.mem_of_getElem? h, rfl⟩), qAt_of' nd.2 h]
    rfl
theorem qrow_at {a : QA} {q : QS} (ok : a.qs.length = q.rows.length) {n : Nat} {r : QR} (hn : q.rows[n]? = some r) : ∃ x, a.qs[n]? = some x ∧ (a.qs.zip (q.rows.map srowD))[n]? = some (x, srowD r) := by
  have hl : n < a.qs.length := by rw [ok]; exact (List.getElem?_eq_some_iff.mp hn).1
  exact ⟨_, List.getElem?_eq_getElem hl, List.getElem?_zip_eq_some.mpr ⟨List.getElem?_eq_getElem hl, by rw [List.getElem?_map, hn]; rfl⟩⟩
theorem qzip_at {a : QA} {q : QS} {n : Nat} {x : Addr × List PyData} (h : (a.qs.zip (q.rows.map srowD))[n]? = some x) : ∃ r, q.rows[n]? = some r ∧ x.2 = srowD r ∧ a.qs[n]? = some x.1 := by
  obtain ⟨y, d⟩ := x
  obtain ⟨h1, h2⟩ := List.getElem?_zip_eq_some.mp h
  rw [List.getElem?_map] at h2
  cases e : q.rows[n]? with
  | none => rw [e] at h2; cases h2
  | some r =>
    rw [e] at h2
    cases h2
    exact ⟨r, rfl, rfl, h1⟩
/-- the row of a name, or None -/
def rowV (a : QA) (q : QS) (n : Str) : V := match qAt q.rows n with
  | some p => match a.qs[p.1]? with
    | some x => .ref x
    | none => .non
  | none => .non
theorem rowV_some {a : QA} {q : QS} {n : Str} {i : Nat} {r : QR} {x : Addr} (h : qAt q.rows n = some (i, r)) (hx : a.qs[i]? = some x) : rowV a q n = .ref x := by
  unfold rowV; rw [h]; dsimp only; rw [hx]
theorem rowV_none {a : QA} {q : QS} {n : Str} (h : qAt q.rows n = none) : rowV a q n = .non := by unfold rowV; rw [h]
theorem srowD_dep (r : QR) : dep 32 (.list (srowD r)) := dep_list (depA_cons dep_str (depA_cons dep_str (depA_cons dep_int (depA_cons dep_str (depA_cons dep_bool depA_nil)))))
theorem srowD_ne {r s : QR} (h : r.name ≠ s.name) : PyData.eqv (.list (srowD r)) (.list (srowD s)) = false := by
  simp [srowD, PyData.eqv, PyData.eqvAll, h]
/-- an entry's first word, its first name -/
def En.w : En → Str
  | .put _ _ _ => "put"
  | .weigh _ _ => "weigh"
  | .drain _ => "drain"
  | .fill _ => "fill"
  | .out _ => "out"
  | .word b _ => wdA b
  | .opn _ _ => "open"
  | .fin _ _ => "end"
  | .moved _ _ _ => "moved"
  | .lost _ _ => "lost"
def En.n : En → Str
  | .put n _ _ => n
  | .weigh n _ => n
  | .drain n => n
  | .fill n => n
  | .out n => n
  | .word _ n => n
  | .opn a _ => a
  | .fin a _ => a
  | .moved a _ _ => a
  | .lost a _ => a
def En.rest : En → List PyData
  | .put _ z w => [.str z, .int w]
  | .weigh _ w => [.int w]
  | .drain _ => []
  | .fill _ => []
  | .out _ => []
  | .word _ _ => []
  | .opn _ n => [.str n]
  | .fin _ n => [.str n]
  | .moved _ o n => [.str o, .str n]
  | .lost _ o => [.str o]
theorem En.d_eq (e : En) : e.d = .str e.w :: .str e.n :: e.rest := by cases e <;> rfl
theorem En.cut2 (e : En) : cutD e.d none (some 2) = [.str e.w, .str e.n] := by
  rw [show (some 2 : Option Int) = some ((2 : Nat) : Int) from rfl, cutD_to _ (by rw [e.d_eq]; simp), e.d_eq]
  rfl
theorem En.cutr (e : En) : cutD e.d (some 2) none = e.rest := by
  rw [show (some 2 : Option Int) = some ((2 : Nat) : Int) from rfl, cutD_from _ (by rw [e.d_eq]; simp), e.d_eq]
  rfl
/-- who may be taken in without fault -/
theorem takeQ_nd {q : QS} (nd : (q.rows.map QR.name).Nodup) (snd : (q.stand.map Prod.fst).Nodup) {e : En} (h : canQ q e = true) : ((takeQ q e).rows.map QR.name).Nodup ∧ ((takeQ q e).stand.map Prod.fst).Nodup ∧ (takeQ q e).rows.length ≤ q.rows.length + 1 ∧ (takeQ q e).stand.length ≤ q.stand.length + 1 := by
  have setN : ∀ (n : Str) (f : QR → QR), (∀ r, (f r).name = r.name) → ((setQ q n f).rows.map QR.name).Nodup ∧ ((setQ q n f).stand.map Prod.fst).Nodup ∧ (setQ q n f).rows.length ≤ q.rows.length + 1 ∧ (setQ q n f).stand.length ≤ q.stand.length + 1 := fun n f hf => by
    unfold setQ
    cases e : qAt q.rows n with
    | none => exact ⟨nd, snd, Nat.le_succ _, Nat.le_succ _⟩
    | some p =>
      obtain ⟨h1, h2⟩ := qAt_some (i := p.1) (r := p.2) e
      refine ⟨?_, snd, by show (q.rows.set p.1 (f p.2)).length ≤ _; rw [List.length_set]; omega, Nat.le_succ _⟩
      have : (q.rows.set p.1 (f p.2)).map QR.name = q.rows.map QR.name := by
        rw [List.map_set, hf]
        apply List.ext_getElem?
        intro m
        by_cases c : p.1 = m
        · subst c
          rw [List.getElem?_set_self (by rw [List.length_map]; exact (List.getElem?_eq_some_iff.mp h1).1), List.getElem?_map, h1]
          rfl
        · rw [List.getElem?_set_ne c]
      show ((q.rows.set p.1 (f p.2)).map QR.name).Nodup
      rw [this]
      exact nd
  have hpt : ∀ a n : Str, ((pt q.stand a n).map Prod.fst).Nodup ∧ (pt q.stand a n).length ≤ q.stand.length + 1 := fun a n => ⟨pt_nd snd, pt_len _ _ _⟩
  have hdr : ∀ a : Str, ((dr q.stand a).map Prod.fst).Nodup ∧ (dr q.stand a).length ≤ q.stand.length + 1 := fun a => ⟨dr_nd snd, Nat.le_succ_of_le (dr_len _ _)⟩
  cases e with
  | put n z wt =>
    refine ⟨?_, snd, by show (q.rows ++ [_]).length ≤ _; rw [List.length_append]; exact Nat.le_refl _, Nat.le_succ _⟩
    show ((q.rows ++ [_]).map QR.name).Nodup
    rw [List.map_append]
    have hn : qAt q.rows n = none := by
      have h : (!(qAt q.rows n).isSome) = true := h
      cases e2 : qAt q.rows n with
      | none => rfl
      | some p => rw [e2] at h; exact nomatch h
    refine List.nodup_append.mpr ⟨nd, List.nodup_cons.mpr ⟨by simp, List.nodup_nil⟩, fun a ha b hb e2 => qAt_none hn ?_⟩
    have hb' : b ∈ [n] := hb
    rw [List.mem_singleton.mp hb'] at e2
    rw [← e2]
    exact ha
  | weigh n wt => exact setN n (fun r => { r with wt := wt }) fun _ => rfl
  | drain n => exact setN n (fun r => { r with dr := true }) fun _ => rfl
  | fill n => exact setN n (fun r => { r with dr := false }) fun _ => rfl
  | word b n => exact setN n (fun r => { r with well := b }) fun _ => rfl
  | out n =>
    show ((match qAt q.rows n with | some p => ({ q with rows := q.rows.eraseIdx p.1 } : QS) | none => q).rows.map QR.name).Nodup ∧ ((match qAt q.rows n with | some p => ({ q with rows := q.rows.eraseIdx p.1 } : QS) | none => q).stand.map Prod.fst).Nodup ∧ (match qAt q.rows n with | some p => ({ q with rows := q.rows.eraseIdx p.1 } : QS) | none => q).rows.length ≤ _ ∧ (match qAt q.rows n with | some p => ({ q with rows := q.rows.eraseIdx p.1 } : QS) | none => q).stand.length ≤ _
    cases qAt q.rows n with
    | none => exact ⟨nd, snd, Nat.le_succ _, Nat.le_succ _⟩
    | some p =>
      have hs := List.eraseIdx_sublist q.rows p.1
      exact ⟨nd.sublist (hs.map _), snd, Nat.le_succ_of_le hs.length_le, Nat.le_succ _⟩
  | opn a n => exact ⟨nd, (hpt a n).1, Nat.le_succ _, (hpt a n).2⟩
  | moved a o n => exact ⟨nd, (hpt a n).1, Nat.le_succ _, (hpt a n).2⟩
  | fin a n => exact ⟨nd, (hdr a).1, Nat.le_succ _, (hdr a).2⟩
  | lost a o => exact ⟨nd, (hdr a).1, Nat.le_succ _, (hdr a).2⟩
end SL

/-! C(), tuple(xs), len of a tuple of anything, dicts of texts compared, ([], {}) compared, list(reversed(xs)) -/
namespace SL
open PySem PySem.Spec PyProof.Rows L2 SeqAt
section
variable {ι : Type} {X : ι → Cx} {K : PySem.W.Frag} {E : Ent} {B : Hp} {Γ Γ' : Slots} {R R' R1 R2' R3 : List Res} {a b c e o : Expr} {es : List Expr} {pos p' : Pos} {s s1 s2 s3 : Sl}
  {P : Program} {w : World} {mg : Str → Option Value} {base : Heap} {A : Around} {N : List Str} {rest sts : List Stmt} {D : Ends} {S S' H H' : Hp} {σ σ' : L2.St} {x : Str} {ps : List Str} {C : Addr}
/-- C(): a new instance -/
theorem ev_make0 {α : Type} {ν : α × Addr → Type} {pre : α × Addr → Prop} {as : α × Addr → List Sl} {Rs : α × Addr → List Res} {Rn : ∀ i, ν i → List Res} (F : Fam X P w K mg base A N) (Cl : MkCal P w K mg base A C x ps (spJ K pre as Rs Rn (fun _ _ => sv .non))) (i : α) (has : ∀ p, as (i, p) = [sv (.ref p)]) (hRs : ∀ p, Rs (i, p) = [rI p C []]) (hpre : ∀ p, pre (i, p))
    (hg : ∀ i, Gl (X i) x := by exact fun _ => rfl) (hdb : (x == ("__debug__" : Str)) = false := by decide) :
    EvN X K E Γ R (.Call (.Name x p') [] [] pos) (fun n : (p : Addr) × ν (i, p) => R ++ Rn (i, n.1) n.2) (fun n => sv (.ref n.1)) := by
  obtain ⟨k, fa, fd, hF, hr, hM, hm, hb⟩ := Cl.ex
  refine ⟨tMake C (spJ K pre as Rs Rn (fun _ _ => sv .non)) [] E0 tNil, fun j => ?_, fun S σ H Q q kk => fun p dx hp hdx hne => ?_⟩
  · refine pe_make0 (CX := CX0) (k := k) (f := fa) (fd := fd) (ps := ps) (ds := []) (by rw [F.fK j]; exact hM) ?_ (by rw [F.fA j]; exact hr) (hg j) (by rw [F.fmg j]; exact hm) (by rw [F.fK j]; exact hb) .nil pass0 hdb
    rw [F.fP j, F.fw j, F.fK j, F.fmg j, F.fbase j]
    exact hF
  · have q2 := (q.junk (o := .own p) hdx).mine (ρ := rI p C []) (o := .ins C dx []) (by rw [upd_ne (fun z => hne z.symm)]; exact hp) ⟨dx, [], rfl, .nil⟩
    have q3 : SR K E Γ (R ++ Rs (i, p) ++ []) S σ (upd (upd H dx (.own p)) p (.ins C dx [])) := by rw [hRs, List.append_nil]; exact q2
    obtain ⟨Os, hOs, hgive⟩ := q3.give
    refine ⟨(i, p), S, Os, hpre p, q3.sub, by rw [has]; exact .cons rfl .nil, hOs, fun n v S' H' Os' hfr hsub hext hnew hown hO hres => ⟨hres, ?_⟩⟩
    have q4 := hgive _ S' H' Os' hfr hsub hext hnew hown hO
    rw [List.append_nil] at q4
    exact kk ⟨p, n⟩ (.ref p) S' H' hext q4 rfl
/-- tuple(xs), xs a list of data -/
theorem cl_tupL (F : Fam X P w K mg base A N) {ds : List PyData} (h : LV K R s1 ds) : ClJ X K E (.type "tuple") R [s1] (sd (.tuple ds)) :=
  ⟨fun xs H Q => ∃ p ys, xs = [.ref p] ∧ ((SqL K H p ys ∧ ∀ l, H l = none → Q (.ref l) (upd H l (.tup ys))) ∨ (SqT K H p ys ∧ Q (.ref p) H)), fun n => by rw [← F.fK n]; exact call_tuple_of, fun Γ S σ H vs Q q r k => by
    obtain ⟨v, rfl, r1⟩ := all2_one r
    obtain ⟨p, us, rfl, h1, h2⟩ := h E Γ S σ H v q r1
    refine ⟨p, us, rfl, .inl ⟨SqL.of h1, fun l hl => ?_⟩⟩
    have q2 := q.grow (o := .tup us) hl
    have hl2 : S l = none := q.free hl
    refine k (.ref l) (upd S l (.tup us)) _ (same_new hl2) q2 (.tup (SqT.of ?_) (daAll_same (same_new hl2) h2))
    unfold upd; rw [if_pos rfl]⟩
theorem cl_lenSt (F : Fam X P w K mg base A N) {ss : List Sl} : ClJ X K E (.builtin "len") R [stup ss] (sv (.int ss.length)) :=
  ⟨fun xs H Q => ∃ x n, xs = [x] ∧ LenV K x H n ∧ Q (.int n) H, fun n => by rw [← F.fK n]; exact call_len, fun Γ S σ H vs Q q r k => by
    obtain ⟨v, rfl, r1⟩ := all2_one r
    obtain ⟨p, us, rfl, h1, h2⟩ := r1
    exact ⟨_, ss.length, rfl, .inr ⟨us, same_t q.sub h1, h2.len⟩, k _ S H (Same.refl _) q rfl⟩⟩
/-- dicts of texts, compared -/
theorem dct_eqS {S1 S2 : Hp} {l : List (Str × Str)} {kss2 : List (Str × Sl)} {k1 k2 : List (Key × V)} (h1 : KRs K S1 (onV dS l) k1) (h2 : KRs K S2 kss2 k2) (h : ∀ a ∈ l, lk kss2 a.1 = some (dS a.2)) : ∀ p ∈ k1, valV k2 p.1 = some p.2 ∧ flatB p.2 = true := by
  induction l generalizing k1 with
  | nil => cases h1; intro p hp; exact nomatch hp
  | cons a l ih =>
    cases h1 with
    | cons g t =>
      intro p hp
      rcases List.mem_cons.mp hp with z | z
      · subst z
        obtain ⟨g1, g2⟩ := g
        have g2' : p.2 = .str a.2 := g2
        rcases h2.val a.1 with ⟨c, _⟩ | ⟨s', u, c1, c2, c3⟩
        · rw [h a (List.mem_cons_self ..)] at c; cases c
        · rw [h a (List.mem_cons_self ..)] at c1
          cases c1
          have c3' : u = .str a.2 := c3
          have g1' : p.1 = .inr a.1 := g1
          rw [g1', c2, c3', g2']
          exact ⟨rfl, rfl⟩
      · exact ih t (fun b hb => h b (List.mem_cons_of_mem _ hb)) p z
theorem br_neDs {n : Nat} (F : Fam X P w K mg base A N) (hr : Room n A) (k1 k2 : Nat) {p1 p2 : Addr} {l : List (Str × Str)} {kss : List (Str × Sl)} (h1 : R[k1]? = some (rDs p1 (onV dS l))) (h2 : R[k2]? = some (rDs p2 kss)) (hl : l.length = kss.length) (h : ∀ a ∈ l, lk kss a.1 = some (dS a.2)) : BinR X K E (compareOp .NotEq) R (sv (.ref p1)) (sv (.ref p2)) (dB false) :=
  ⟨rNeDA, fun j => op_ne_dictA (by rw [F.fA j]; have := hr.units; omega), fun Γ S σ H u y Q q r1 r2 kk => by
    cases (show u = .ref p1 from r1)
    cases (show y = .ref p2 from r2)
    obtain ⟨kv1, c1, c2⟩ := q.cellD k1 h1
    obtain ⟨kv2, d1, d2⟩ := q.cellD k2 h2
    exact ⟨p1, p2, kv1, kv2, rfl, rfl, c1, d1, by rw [← c2.len, ← d2.len, ← hl]; exact List.length_map .., dct_eqS c2 d2 h, kk _ S H (Same.refl _) q rfl⟩⟩
end
/-! ([], {}) != ([], {}) -/
def rNeTE (K : PySem.W.Frag) : R2 := fun x y H Q => ∃ a b l d l' d', (x = .ref a ∧ y = .ref b) ∧ (SqT K H a [.ref l, .ref d] ∧ SqT K H b [.ref l', .ref d']) ∧ (H l = some (.lst []) ∧ H l' = some (.lst [])) ∧ (H d = some (.dK []) ∧ H d' = some (.dK [])) ∧ Q (.bl false) H
theorem dictOf_nil {h : Heap} {a : Addr} {p1 p2 : Program} {w1 w2 : World} (x : h.DictOf (mixKind p1 w1) a []) : h.DictOf (mixKind p2 w2) a [] := by
  obtain ⟨o, es, ep, g1, g2, g3, g4, g5, g6⟩ := x
  have e : es.toList = [] := by
    cases hh : es.toList with
    | nil => rfl
    | cons y l => rw [hh] at g5; cases g5
  have e2 : es = #[] := by
    have := congrArg List.toArray e
    simpa using this
  subst e2
  exact ⟨o, #[], ep, g1, g2, g3, by intro y hy; exact absurd hy (by simp), .nil, List.nodup_nil⟩
theorem op_neTE {X : Cx} (hu : X.A.units + 64 < cLine) : OpR X (compareOp .NotEq) (rNeTE X.K) := by
  intro pins s σ H x y v u Q I rx ry h
  obtain ⟨a, b, l, d, l', d', ⟨rfl, rfl⟩, ⟨t1, t2⟩, ⟨l1, l2⟩, ⟨d1, d2⟩, q⟩ := h
  obtain rfl : v = Value.ref a := rx
  obtain rfl : u = Value.ref b := ry
  obtain ⟨i1, r1, p1, z1⟩ := I.tuple t1
  obtain ⟨i2, r2, p2, z2⟩ := I.tuple t2
  obtain ⟨u1, w1, rfl, e1, f1⟩ := vals2 r1
  obtain ⟨u2, w2, rfl, e2, f2⟩ := vals2 r2
  obtain rfl : u1 = Value.ref l := e1
  obtain rfl : w1 = Value.ref d := f1
  obtain rfl : u2 = Value.ref l' := e2
  obtain rfl : w2 = Value.ref d' := f2
  obtain ⟨j1, s1, m1, y1⟩ := I.list (SqL.of l1)
  obtain ⟨j2, s2, m2, y2⟩ := I.list (SqL.of l2)
  cases s1
  cases s2
  have g1 := m1.isList
  have g2 := m2.isList
  obtain ⟨_, ya, va, ra, da⟩ := (show ObjOk X.prog X.w H s.heap d (.dK []) from I.hok d _ d1)
  obtain ⟨_, yb, vb, rb, db⟩ := (show ObjOk X.prog X.w H s.heap d' (.dK []) from I.hok d' _ d2)
  cases ra
  cases rb
  have h1 : X.A.in1.units ≤ X.A.units + 1 := Nat.le_refl _
  have E1 : EqAt X.A.in1 s (.ref l) (.ref l') true := by
    by_cases c : l = l'
    · subst c; exact EqAt.same _
    · exact EqAt.of_refs c (RcAt.lists (e := fun _ => true) g1 g2 rfl (by omega) fun j j1 j2 => absurd j1 (by simp))
  have E2 : EqAt X.A.in1 s (.ref d) (.ref d') true := by
    by_cases c : d = d'
    · subst c; exact EqAt.same _
    · exact EqAt.of_refs c fun prog w E Q hq => PySem.W.keq_eq (prog := prog) (w := w) (knd := mixKind prog w) (r := true) ya yb (dictOf_nil da) (dictOf_nil db) (by omega) (fun _ => hits_all (κ := Key) (kvs := []) (ks := []) .nil .nil fun p hp => nomatch hp) hq
  refine RcNeAt.tuples (e := fun _ => true) p1 p2 (by omega) (fun j j1 j2 => ?_) _ _ _ _ (fin_bl I q (by rfl))
  match j, j1, j2 with
  | 0, _, _ => exact E1
  | 1, _, _ => exact E2
  | j + 2, z, _ => exact absurd z (by simp)
section
variable {ι : Type} {X : ι → Cx} {K : PySem.W.Frag} {E : Ent} {Γ : Slots} {R : List Res} {P : Program} {w : World} {mg : Str → Option Value} {base : Heap} {A : Around} {N : List Str}
theorem br_neTE {k : Nat} (F : Fam X P w K mg base A N) (hr : Room k A) {l d l' d' : Addr} (n1 n2 n3 n4 : Nat) (h1 : R[n1]? = some (rL l [])) (h2 : R[n2]? = some (rDs d [])) (h3 : R[n3]? = some (rL l' [])) (h4 : R[n4]? = some (rDs d' [])) : BinR X K E (compareOp .NotEq) R (stup [sv (.ref l), sv (.ref d)]) (stup [sv (.ref l'), sv (.ref d')]) (dB false) :=
  ⟨rNeTE K, fun n => by rw [← F.fK n]; exact op_neTE (by rw [F.fA n]; exact hr.units), fun Γ S σ H x y Q q r1 r2 k => by
    obtain ⟨a, us, rfl, g1, g2⟩ := r1
    obtain ⟨b, vs, rfl, g3, g4⟩ := r2
    obtain ⟨u1, u2, rfl, e1, e2⟩ := all2_two g2
    obtain ⟨v1, v2, rfl, f1, f2⟩ := all2_two g4
    cases (show u1 = .ref l from e1)
    cases (show u2 = .ref d from e2)
    cases (show v1 = .ref l' from f1)
    cases (show v2 = .ref d' from f2)
    obtain ⟨m1, c1, c2⟩ := q.cellL n1 h1
    obtain ⟨m2, c3, c4⟩ := q.cellL n3 h3
    obtain ⟨k1, c5, c6⟩ := q.cellD n2 h2
    obtain ⟨k2, c7, c8⟩ := q.cellD n4 h4
    cases c2
    cases c4
    cases c6
    cases c8
    exact ⟨a, b, l, d, l', d', ⟨rfl, rfl⟩, ⟨same_t q.sub g1, same_t q.sub g3⟩, ⟨c1, c3⟩, ⟨c5, c7⟩, k _ S H (Same.refl _) q rfl⟩⟩
end
end SL

/-! two new things compared; what a log sums to is what a hall has -/
namespace SL
open PySem PySem.Spec PyProof.Rows L2
section
variable {ι : Type} {X : ι → Cx} {K : PySem.W.Frag} {E : Ent} {B : Hp} {Γ Γ' : Slots} {R R' R1 R2' R3 : List Res} {a b c e o : Expr} {es : List Expr} {pos p' : Pos} {s s1 s2 s3 : Sl}
  {P : Program} {w : World} {mg : Str → Option Value} {base : Heap} {A : Around} {N : List Str} {x y : Str} {i j : Int}
theorem tn_cmp2 {ν : Type} {μ : Type} {k : Bool} {Rn : ν → List Res} {sn : ν → Sl} {Rm : ν → μ → List Res} {sm : ν → μ → Sl} {op : CmpOp} (ha : EvN X K E Γ R a Rn sn) (hb : ∀ n, EvN X K E Γ (Rn n) b (Rm n) (sm n)) (ho : ∀ n m, BinR X K E (compareOp op) (Rm n m) (sn n) (sm n m) (sv (.bl k))) (hm : behindInMarks op b = false := by first | exact nomark _ | with_unfolding_all rfl) : TnJ X K E Γ R (.Compare a [op] [b] pos) k (fun p : ν × μ => Rm p.1 p.2) := by
  obtain ⟨ta, a1, a2⟩ := ha
  have hb' := fun n => Classical.choose_spec (hb n)
  have ho' := fun (p : ν × μ) => Classical.choose_spec (ho p.1 p.2)
  refine ⟨tTest (tOp (fun x y H Q => ∃ p : ν × μ, Classical.choose (ho p.1 p.2) x y H Q) ta _), fun i => pt_cmpR (fun pins s σ H x y v u Q I rx ry ⟨n, h⟩ => (ho' n).1 i pins s σ H x y v u Q I rx ry h) (a1 i) (pe_any fun n => (hb' n).1 i) hm, fun S σ H Q q k' => ?_⟩
  refine a2 S σ H _ q fun n x S1 H1 e1 q1 r1 => ⟨n, (hb' n).2 S1 σ H1 _ q1 fun m y S2 H2 e2 q2 r2 => ⟨(n, m), ?_⟩⟩
  exact (ho' (n, m)).2 Γ S2 σ H2 x y _ q2 ((sn n).mono e2 r1) r2 fun v S3 H3 e3 q3 r3 => ⟨k, r3, k' (n, m) S3 H3 ((e1.trans e2).trans e3) q3⟩
theorem br_neI0 (h : i = j) : BinR X K E (compareOp .NotEq) R (dI i) (dI j) (dB false) := by
  have z := br_neI (X := X) (K := K) (E := E) (R := R) (i := i) (j := j)
  rwa [decide_eq_true h] at z
theorem br_eqI1 (h : i = j) : BinR X K E (compareOp .Eq) R (dI i) (dI j) (dB true) := by
  have z := br_eqI (X := X) (K := K) (E := E) (R := R) (i := i) (j := j)
  rwa [decide_eq_true h] at z
theorem br_neD0 {k : Nat} (F : Fam X P w K mg base A N) (hr : Room k A) {d : PyData} (h1 : DV K R s1 d) (h2 : DV K R s2 d) (hp : d.plain = true) (hd : dep 64 d) : BinR X K E (compareOp .NotEq) R s1 s2 (dB false) := by
  have z := br_neP (X := X) (K := K) (E := E) (R := R) F hr h1 h2 (.inl hd)
  rwa [eqv_plain d hp] at z
theorem br_eqD1 {k : Nat} (F : Fam X P w K mg base A N) (hr : Room k A) {d : PyData} (h1 : DV K R s1 d) (h2 : DV K R s2 d) (hp : d.plain = true) (hd : dep 64 d) : BinR X K E (compareOp .Eq) R s1 s2 (dB true) := by
  have z := br_eqP (X := X) (K := K) (E := E) (R := R) F hr h1 h2 (.inl hd)
  rwa [eqv_plain d hp] at z
end
theorem en_plain (e : En) : (enD e).plain = true := by cases e <;> rfl
theorem ens_plain (es : List En) : (PyData.list (es.map enD)).plain = true := by rw [PyData.plain]; exact plA_map en_plain es
theorem en_dep (e : En) : dep 2 (enD e) := by
  cases e <;> exact dep_tup (by repeat first | exact depA_nil | refine depA_cons (by first | exact dep_str | exact dep_int) ?_)
section
variable {U : List Str} {h : HS} {k : Nat}
theorem q_some (i : HInv U h k) {x : Str × Str} (hx : x ∈ (qOf h).stand) : lk h.stand x.1 = some (some x.2) := by
  obtain ⟨y, hy, rfl⟩ := List.mem_map.mp (show x ∈ onV gS h.stand from hx)
  obtain ⟨_, n, hn, _⟩ := i.stand y hy
  have := lk_mem i.snd (show (y.1, y.2) ∈ h.stand from hy)
  show lk h.stand y.1 = some (some (gS y.2))
  rw [this, hn]
  rfl
theorem q_len : (qOf h).stand.length = h.stand.length := List.length_map ..
end
end SL

/-! comprehensions of what is chosen on the way; ints shown; the last of a tuple; servers by name alone -/
namespace SL
open PySem PySem.Spec PyProof.Rows L2
section
variable {ι : Type} {X : ι → Cx} {K : PySem.W.Frag} {E : Ent} {B : Hp} {Γ Γ' : Slots} {R R' R1 R2' R3 : List Res} {a b c e o : Expr} {es : List Expr} {pos p' : Pos} {s s1 s2 s3 : Sl}
  {P : Program} {w : World} {mg : Str → Option Value} {base : Heap} {A : Around} {N : List Str} {x y : Str} {i j : Int}
/-- [f(x) for x in xs], each one's data chosen on the way -/
theorem lc_E {α β : Type} {tg iter elt : Expr} {scope : Scope} {own : List (Str × Nat)} {C : List Res → Prop} {us : List Nat} {xs : List α} {it : α → Sl} {up : α → Slots → Slots} {d : β → PyData} (Qb : β → Prop)
    (F : Fam X P w K mg base A N) (hi : ItJ X K E Γ R tg iter R1 (xs.map it) C) (ok : ∀ i, BlkOk (X i).N (X i).env.scope scope own)
    (htg : Fam (BX X scope) P w K mg base A N → TgA (BX X scope) K E tg it up us) (hu : ∀ j ∈ us, j ∈ own.map (·.2))
    (hC : ∀ D acc, C (R1 ++ [rL D acc]))
    (he : Fam (BX X scope) P w K mg base A N → ∀ D acc, ∀ x ∈ xs, ∃ sn : {y : β // Qb y} → Sl, EvN (BX X scope) K E (up x (wipeG Γ (own.map (·.2)))) (R1 ++ [rL D acc]) elt (fun _ : {y : β // Qb y} => R1 ++ [rL D acc]) sn ∧ ∀ n K S v, (sn n).r K S v → Da K S v (d n.1))
    (hz : xs.length ≤ 1000000) (hs : ∀ i x, foldedSetIterable iter (X i).env x = pure x := by exact fun _ _ => rfl) (hcm : ∀ i, (X i).calm = true := by exact fun _ => rfl) :
    LcN X K E Γ R (.ListComp elt [⟨tg, iter, [], 0⟩] scope pos) (fun n : Addr × {ys : List β // ys.length = xs.length ∧ ∀ y ∈ ys, Qb y} => R1 ++ [rL n.1 (n.2.1.map d)]) (fun n => sv (.ref n.1)) := by
  have htg := htg (fam_blk F)
  have he := he (fam_blk F)
  obtain ⟨wi, w1, w2⟩ := hi
  obtain ⟨g, t1, t2⟩ := htg
  have he' := fun (n : { q : Addr × List PyData × α // q.2.2 ∈ xs }) => Classical.choose_spec (he n.1.1 n.1.2.1 n.1.2.2 n.2)
  have he'' := fun (n : { q : Addr × List PyData × α // q.2.2 ∈ xs }) => Classical.choose_spec (he' n).1
  refine ⟨tLc wi g tYes _ (own.map (·.2)), fun i => pe_lc (hcm i) (by rw [F.fN i]; exact F.nd) (w1 i) (ok i) (fun s H C cl fp => t1 ⟨i, s, H, C, cl, fp⟩) (fun s H C cl fp => pts_nil) (fun s H C cl fp => pe_any fun n => (he'' n).1 ⟨i, s, H, C, cl, fp⟩) (hs i), fun i k y py spos hy hyl hsw => ps_setLc (hcm i) (by rw [F.fN i]; exact F.nd) hy hyl hsw (w1 i) (ok i) (fun s H C cl fp => t1 ⟨i, s, H, C, cl, fp⟩) (fun s H C cl fp => pts_nil) (fun s H C cl fp => pe_any fun n => (he'' n).1 ⟨i, s, H, C, cl, fp⟩) (hs i), fun S σ H Q q kk => ?_⟩
  refine w2 S σ H _ q fun J S1 H1 e1 q1 hJ D hD => ?_
  refine ⟨fun n m H => m = xs.length - n ∧ n ≤ xs.length ∧ ∃ S' ys, Same S1 S' ∧ (ys.length = n ∧ ∀ y ∈ ys, Qb y) ∧ SR K E Γ (R1 ++ [rL D (ys.map d)]) S' σ H, ⟨xs.length, by simp, Nat.zero_le _, S1, [], Same.refl _, ⟨rfl, fun y hy => nomatch hy⟩, q1.mine hD ⟨[], rfl, .nil⟩⟩, ?_⟩
  rintro n m H2 ⟨rfl, hn, S2, ys, e2, ⟨hyl, hyq⟩, q2⟩
  obtain ⟨g1, g2⟩ := hJ n _ _ S2 σ H2 e2 q2 (hC _ _)
  by_cases hlt : n < xs.length
  · have hx : xs[n]? = some xs[n] := List.getElem?_eq_getElem hlt
    have hm : xs[n] ∈ xs := List.getElem_mem hlt
    obtain ⟨go, hy⟩ := g1 (it xs[n]) (by rw [List.getElem?_map, hx]; rfl)
    refine .inr ⟨go, fun H' => ∃ S' ys, Same S1 S' ∧ (ys.length = n + 1 ∧ ∀ y ∈ ys, Qb y) ∧ SR K E Γ (R1 ++ [rL D (ys.map d)]) S' σ H', fun H' ⟨S', ys', h'⟩ => ⟨xs.length - (n + 1), by omega, rfl, hlt, S', ys', h'⟩, fun x H' hx' => ?_⟩
    obtain ⟨S3, e3, q3, r3⟩ := hy x H' hx'
    apply t2 xs[n] _ _ S3 (wipe σ (own.map (·.2))) H' x _ (q3.reslot (wipe_slots _ q3.slots)) r3
    intro σ4 q4 o4 l4
    refine ⟨wipe_eq o4 l4 hu, ?_⟩
    simp only [tYes, if_true]
    refine ⟨⟨(D, ys.map d, xs[n]), hm⟩, (he'' ⟨(D, ys.map d, xs[n]), hm⟩).2 S3 σ4 H' _ q4 fun z y S6 H6 e6 q6 r6 => ?_⟩
    have hda := (he' ⟨(D, ys.map d, xs[n]), hm⟩).2 z K S6 y r6
    have q6' : SR K E Γ (R1 ++ [rL D (ys.map d)]) S6 σ H6 := q6.reslot (slots_mono e6 q3.slots)
    obtain ⟨O, ⟨acc, eO, hacc⟩, sO⟩ := q6'.res R1.length get_last
    subst eO
    refine ⟨acc, sO D _ hOne_same, ?_, S6, ys ++ [z.1], (e2.trans e3).trans e6, ⟨by rw [List.length_append, hyl]; rfl, fun y' hy' => ?_⟩, ?_⟩
    · rw [daAll_len hacc, List.length_map, hyl]
      have : (sizeLine : Nat) = 16777216 := sizeLine_eq
      omega
    · rcases List.mem_append.mp hy' with t | t
      · exact hyq y' t
      · rw [List.mem_singleton.mp t]; exact z.2
    · have h := q6'.putL R1.length get_last (vs' := acc ++ [y]) (ds' := (ys ++ [z.1]).map d) (by rw [List.map_append]; exact daAll_app hacc (.cons hda .nil))
      rw [set_last] at h
      exact h
  · have e : n = xs.length := by omega
    subst e
    exact .inl ⟨g2 (by rw [List.length_map]; exact Nat.le_refl _), kk (D, ⟨ys, hyl, hyq⟩) _ S2 H2 (e1.trans e2) q2 rfl⟩
/-- repr of a small int -/
theorem cl_showI {n : Int} (h : n.natAbs.log2 < 1920) : ClJ X K E (.builtin "repr") R [dI n] (dS (toString n)) :=
  ⟨fun vs H Q => vs = [.int n] ∧ Q (.str (toString n)) H, fun i pins s σ H vs us Q I r h2 => by
    obtain ⟨rfl, q⟩ := h2
    obtain ⟨u, rfl, t, rfl⟩ := vals1 r
    exact PySem.P.repr_of_int h ⟨.str _, H, I.tok _, ⟨_, rfl⟩, q⟩, fun Γ S σ H vs Q q r k => by
    obtain ⟨v, rfl, r1⟩ := all2_one r
    cases (show v = .int n from r1)
    exact ⟨rfl, k _ S H (Same.refl _) q rfl⟩⟩
end
theorem atI_last {α : Type} {xs : List α} {x : α} (h : xs.getLast? = some x) : atI xs (-1) = some x := by
  have hne : xs ≠ [] := fun z => by rw [z] at h; exact nomatch h
  have hl : 0 < xs.length := List.length_pos_iff.mpr hne
  unfold atI ixN
  rw [if_neg (by decide), if_pos (by omega)]
  show xs[((-1 : Int) + xs.length).toNat]? = _
  rw [show ((-1 : Int) + xs.length).toNat = xs.length - 1 by omega, ← List.getLast?_eq_getElem?]
  exact h
/-! servers by their names alone -/
def qv (q : QS) (n : Str) : Option (Bool × Bool) := (qAt q.rows n).map fun p => (p.2.well, p.2.dr)
theorem qv_some {q : QS} (nd : (q.rows.map QR.name).Nodup) {r : QR} (h : r ∈ q.rows) : qv q r.name = some (r.well, r.dr) := by
  obtain ⟨i, hi⟩ := List.getElem?_of_mem h
  unfold qv
  rw [qAt_of' nd hi]; rfl
theorem qv_none {q : QS} {n : Str} (h : ∀ r ∈ q.rows, r.name ≠ n) : qv q n = none := by
  unfold qv
  rw [qAt_none' h]; rfl
theorem qv_cases (q : QS) (n : Str) : (∃ r ∈ q.rows, r.name = n) ∨ ∀ r ∈ q.rows, r.name ≠ n := by
  cases e : qAt q.rows n with
  | some p =>
    obtain ⟨h1, h2⟩ := qAt_some (i := p.1) (r := p.2) e
    exact .inl ⟨p.2, List.mem_of_getElem? h1, h2⟩
  | none => exact .inr fun r hr he => qAt_none e (List.mem_map.mpr ⟨r, hr, he⟩)
def Srel (sv : List (Str × (Bool × Bool))) (q : QS) : Prop := ∀ n, lk sv n = qv q n
/-- servers behind an entry, by the law's own reading -/
def takeS (sv : List (Str × (Bool × Bool))) (q : QS) : En → List (Str × (Bool × Bool))
  | .put n _ _ => pt sv n (true, false)
  | .drain n => pt sv n (((qv q n).getD (false, false)).1, true)
  | .fill n => pt sv n (((qv q n).getD (false, false)).1, false)
  | .word b n => pt sv n (b, ((qv q n).getD (false, false)).2)
  | .out n => dr sv n
  | _ => sv
theorem lk_dr_self {β : Type} {x : Str} : ∀ {l : List (Str × β)}, lk (dr l x) x = none
  | [] => rfl
  | (y, v) :: l => by
    by_cases e : y = x
    · rw [show dr ((y, v) :: l) x = dr l x by unfold dr; rw [List.filter_cons, if_neg (by simp [e])]]
      exact lk_dr_self
    · rw [show dr ((y, v) :: l) x = (y, v) :: dr l x by unfold dr; rw [List.filter_cons, if_pos (by simp [e])], lk_neg e]
      exact lk_dr_self
theorem srel_set {sv : List (Str × (Bool × Bool))} {q : QS} (h : Srel sv q) (nd : (q.rows.map QR.name).Nodup) {n : Str} {f : QR → QR} (hf : ∀ r, (f r).name = r.name) {j : Nat} {r : QR} (hr : qAt q.rows n = some (j, r)) (nd' : ((setQ q n f).rows.map QR.name).Nodup) : Srel (pt sv n ((f r).well, (f r).dr)) (setQ q n f) := fun m => by
  have e := setQ_at' hr (f := f)
  obtain ⟨h1, h2⟩ := qAt_some hr
  rw [lk_pt]
  rw [e] at nd' ⊢
  have hl := (List.getElem?_eq_some_iff.mp h1).1
  have hin : f r ∈ q.rows.set j (f r) := List.mem_of_getElem? (i := j) (List.getElem?_set_self hl)
  by_cases c : m = n
  · rw [if_pos c]
    have := qv_some (q := { q with rows := q.rows.set j (f r) }) nd' hin
    rw [hf, h2] at this
    rw [c, this]
  · rw [if_neg c, h m]
    rcases qv_cases q m with ⟨s, hs, hsn⟩ | hno
    · rw [← hsn, qv_some nd hs]
      obtain ⟨i, hi⟩ := List.getElem?_of_mem hs
      have hij : j ≠ i := fun z => by
        rw [← z, h1] at hi
        cases hi
        exact c (hsn.symm.trans h2)
      have hs' : s ∈ q.rows.set j (f r) := List.mem_of_getElem? (i := i) (by rw [List.getElem?_set_ne hij]; exact hi)
      exact (qv_some (q := { q with rows := q.rows.set j (f r) }) nd' hs').symm
    · rw [qv_none hno]
      refine (qv_none (q := { q with rows := q.rows.set j (f r) }) fun s hs hsn => ?_).symm
      rcases List.mem_or_eq_of_mem_set hs with z | z
      · exact hno s z hsn
      · rw [z, hf, h2] at hsn; exact c hsn.symm
where setQ_at' {q : QS} {n : Str} {j : Nat} {r : QR} {f : QR → QR} (h : qAt q.rows n = some (j, r)) : setQ q n f = { q with rows := q.rows.set j (f r) } := by unfold setQ; rw [h]
theorem srel_take {sv : List (Str × (Bool × Bool))} {q : QS} (h : Srel sv q) (nd : (q.rows.map QR.name).Nodup) (snd : (q.stand.map Prod.fst).Nodup) {e : En} (hc : canQ q e = true) : Srel (takeS sv q e) (takeQ q e) := by
  obtain ⟨nd', _, _, _⟩ := takeQ_nd nd snd hc
  cases e with
  | put n z wt =>
    intro m
    show lk (pt sv n (true, false)) m = qv ⟨q.rows ++ [⟨n, z, wt, true, false⟩], q.stand⟩ m
    have nd' : ((q.rows ++ [(⟨n, z, wt, true, false⟩ : QR)]).map QR.name).Nodup := nd'
    rw [lk_pt]
    by_cases c : m = n
    · rw [if_pos c, c]
      exact (qv_some (q := ⟨q.rows ++ [⟨n, z, wt, true, false⟩], q.stand⟩) (r := ⟨n, z, wt, true, false⟩) nd' (List.mem_append_right _ (List.mem_singleton_self _))).symm
    · rw [if_neg c, h m]
      rcases qv_cases q m with ⟨s, hs, hsn⟩ | hno
      · rw [← hsn, qv_some nd hs]
        exact (qv_some (q := ⟨q.rows ++ [⟨n, z, wt, true, false⟩], q.stand⟩) nd' (List.mem_append_left _ hs)).symm
      · rw [qv_none hno]
        refine (qv_none (q := ⟨q.rows ++ [⟨n, z, wt, true, false⟩], q.stand⟩) fun s hs hsn => ?_).symm
        rcases List.mem_append.mp hs with t | t
        · exact hno s t hsn
        · rw [List.mem_singleton.mp t] at hsn; exact c hsn.symm
  | weigh n wt =>
    have hq : (qAt q.rows n).isSome = true := hc
    cases e2 : qAt q.rows n with
    | none => rw [e2] at hq; exact nomatch hq
    | some p =>
      intro m
      have z := srel_set h nd (f := fun r => { r with wt := wt }) (fun _ => rfl) (j := p.1) (r := p.2) e2 nd' m
      rw [lk_pt] at z
      show lk sv m = qv (setQ q n fun r => { r with wt := wt }) m
      rw [← z]
      by_cases c : m = n
      · rw [if_pos c, c, h n]; unfold qv; rw [e2]; rfl
      · rw [if_neg c]
  | drain n =>
    have hq : (match qAt q.rows n with | some p => !p.2.dr | none => false) = true := hc
    cases e2 : qAt q.rows n with
    | none => rw [e2] at hq; exact nomatch hq
    | some p =>
      have z := srel_set h nd (f := fun r => { r with dr := true }) (fun _ => rfl) (j := p.1) (r := p.2) e2 nd'
      show Srel (pt sv n (((qv q n).getD (false, false)).1, true)) _
      have : ((qv q n).getD (false, false)).1 = p.2.well := by unfold qv; rw [e2]; rfl
      rw [this]; exact z
  | fill n =>
    have hq : (match qAt q.rows n with | some p => p.2.dr | none => false) = true := hc
    cases e2 : qAt q.rows n with
    | none => rw [e2] at hq; exact nomatch hq
    | some p =>
      have z := srel_set h nd (f := fun r => { r with dr := false }) (fun _ => rfl) (j := p.1) (r := p.2) e2 nd'
      show Srel (pt sv n (((qv q n).getD (false, false)).1, false)) _
      have : ((qv q n).getD (false, false)).1 = p.2.well := by unfold qv; rw [e2]; rfl
      rw [this]; exact z
  | word b n =>
    have hq : (match qAt q.rows n with | some p => !decide (p.2.well = b) | none => false) = true := hc
    cases e2 : qAt q.rows n with
    | none => rw [e2] at hq; exact nomatch hq
    | some p =>
      have z := srel_set h nd (f := fun r => { r with well := b }) (fun _ => rfl) (j := p.1) (r := p.2) e2 nd'
      show Srel (pt sv n (b, ((qv q n).getD (false, false)).2)) _
      have : ((qv q n).getD (false, false)).2 = p.2.dr := by unfold qv; rw [e2]; rfl
      rw [this]; exact z
  | out n =>
    have hq : (qAt q.rows n).isSome = true := hc
    cases e2 : qAt q.rows n with
    | none => rw [e2] at hq; exact nomatch hq
    | some p =>
      obtain ⟨h1, h2⟩ := qAt_some (i := p.1) (r := p.2) e2
      have et : takeQ q (.out n) = ⟨q.rows.eraseIdx p.1, q.stand⟩ := by
        show (match qAt q.rows n with | some p => ({ q with rows := q.rows.eraseIdx p.1 } : QS) | none => q) = _
        rw [e2]
      rw [et] at nd' ⊢
      intro m
      show lk (dr sv n) m = _
      have key : ∀ s ∈ q.rows.eraseIdx p.1, s.name ≠ n := fun s hs hsn => by
        obtain ⟨i, hi⟩ := List.getElem?_of_mem hs
        rw [List.getElem?_eraseIdx] at hi
        have k2 : ∀ i', q.rows[i']? = some s → i' = p.1 := fun i' hi' => by
          have g1 := qAt_of' nd hi'
          rw [hsn, e2] at g1
          cases g1
          rfl
        split at hi
        · have := k2 _ hi; omega
        · have := k2 _ hi; omega
      by_cases c : m = n
      · rw [c, lk_dr_self]
        exact (qv_none (q := ⟨q.rows.eraseIdx p.1, q.stand⟩) key).symm
      · rw [lk_dr c, h m]
        rcases qv_cases q m with ⟨s, hs, hsn⟩ | hno
        · rw [← hsn, qv_some nd hs]
          obtain ⟨i, hi⟩ := List.getElem?_of_mem hs
          have hip : i ≠ p.1 := fun z => by
            rw [z, h1] at hi
            cases hi
            exact c (hsn.symm.trans h2)
          have : s ∈ q.rows.eraseIdx p.1 := by
            rw [List.mem_eraseIdx_iff_getElem?]
            exact ⟨i, hip, hi⟩
          exact (qv_some (q := ⟨q.rows.eraseIdx p.1, q.stand⟩) nd' this).symm
        · rw [qv_none hno]
          exact (qv_none (q := ⟨q.rows.eraseIdx p.1, q.stand⟩) fun s hs => hno s ((List.eraseIdx_sublist _ _).subset hs)).symm
  | opn a n => exact h
  | fin a n => exact h
  | moved a o n => exact h
  | lost a o => exact h
end SL

/-! list(reversed(xs)) -/
namespace SL
open PySem PySem.Spec PyProof.Rows L2 RT
section
variable {prog : Program} {w : World} {A : Around} {E : Value → Shared → Prop} {s : Shared}
theorem call_list_rev {it l : Addr} {items : Array Value} {Q : Value → Shared → Prop} (hh : A.handled = none) (hit : s.heap.IsRevIter it l ((items.size : Int) - 1)) (hl : s.heap.IsList l items) (hne : l ≠ it) (hn : items.size ≤ sizeLine)
    (hQ : ∀ (h' : Heap) (tk : Nat) (acc : Array Value) (c : Nat), (∀ b o, b ≠ it → s.heap.get? b = some o → h'.get? b = some o) → h'.get? s.heap.objs.size = some { cls := .type "list", dict := none, data := .seq acc c, slots := #[] } →
      ItemsOf (fun i v => items[items.size - 1 - i]? = some v) acc items.size → Q (.ref s.heap.objs.size) { s with heap := h', toks := tk }) :
    wpAny (model prog w) A (call (.type "list") [.ref it]) Q E s := by
  have W := (Walks.listRev (prog := prog) (w := w) (A := A.in1.in1) hh it l hne items).toS
  obtain ⟨oi, hoi, _⟩ := id hit
  obtain ⟨ol, hol, _⟩ := id hl
  have hSi : s.heap.objs.size ≠ it := Nat.ne_of_gt (Heap.lt_size hoi)
  have hSl : s.heap.objs.size ≠ l := Nat.ne_of_gt (Heap.lt_size hol)
  have hSf : s.heap.objs.size ∉ [it, l] := by simp only [List.mem_cons, List.not_mem_nil, or_false, not_or]; exact ⟨hSi, hSl⟩
  refine callType_codes (Q₁ := fun obj s₁ => obj = .ref s.heap.objs.size ∧ s₁ = { s with heap := s.heap.push { cls := .type "list", data := .seq #[] } }) F.called_list (F.typeCall_list_1 _) F.entry_list_init
    (code_list_new _ ⟨rfl, rfl⟩) fun obj s₁ h₁ => ?_
  obtain ⟨rfl, rfl⟩ := h₁
  have hS : (s.heap.push { cls := .type "list", data := .seq #[] }).get? s.heap.objs.size = some { cls := .type "list", data := .seq #[] } := Heap.get?_push_size _ rfl
  refine ⟨⟨_, hS, rfl⟩, F.args_list_init_2 _ _, ?_⟩
  show wpAny _ A.in1.in1 (do let old ← Builtin.List.listItems (.ref s.heap.objs.size); Builtin.List.listUpdate (.ref s.heap.objs.size) (fun _ => #[]); letGo old.toList.reverse; Builtin.List.listExtendWith (.ref s.heap.objs.size) (.ref it) .none) _ _ _
  refine wpAny_bind ?_
  unfold Builtin.List.listItems
  refine wpAny_bind (wpAny_seqItems hS rfl (wpAny_pure ?_))
  show wpAny _ A.in1.in1 (updateSeq s.heap.objs.size (fun _ => #[]) >>= fun _ => letGo (#[] : Array Value).toList.reverse >>= fun _ => Builtin.List.listExtendWith (.ref s.heap.objs.size) (.ref it) .none) _ _ _
  refine wpAny_bind (wpAny_updateSeq hS rfl ?_)
  have hS2 := Heap.get?_update_self (Obj.mapSeq (fun _ => (#[] : Array Value))) hS rfl
  refine wpAny_bind (wpAny_letGo ?_)
  have k2 : ∀ b o, s.heap.get? b = some o → ((s.heap.push { cls := .type "list", data := .seq #[] }).update s.heap.objs.size (Obj.mapSeq (fun _ => (#[] : Array Value)))).get? b = some o := fun b o e =>
    (Heap.get?_update_other _ _ (Ne.symm (Nat.ne_of_lt (Heap.lt_size e)))).trans (Heap.get?_push_of_some _ e)
  have hit1 := hit.at (h' := (s.heap.push { cls := .type "list", data := .seq #[] }).update s.heap.objs.size (Obj.mapSeq (fun _ => (#[] : Array Value)))) fun o e => k2 _ o e
  have hl1 := hl.at (h' := (s.heap.push { cls := .type "list", data := .seq #[] }).update s.heap.objs.size (Obj.mapSeq (fun _ => (#[] : Array Value)))) fun o e => k2 _ o e
  have hT : ({ s with heap := (s.heap.push { cls := .type "list", data := .seq #[] }).update s.heap.objs.size (Obj.mapSeq (fun _ => (#[] : Array Value))) } : Shared).TypeIs (.ref it) "list_reverseiterator" := Heap.IsRevIter.typeIs (s := { s with heap := _ }) hit1
  have h1 : Builtin.List.listSameRef (.ref s.heap.objs.size) (.ref it) = false := by simp [Builtin.List.listSameRef, hSi]
  unfold Builtin.List.listExtendWith
  refine wpAny_bind (wpAny_typeOf hT ?_)
  rw [if_neg (by rw [h1]; decide)]
  refine wpAny_bind (wpAny_pyIter_revIter (s := { s with heap := _ }) hit1 ?_)
  refine wpAny_bind (wpAny_holding ?_)
  unfold Builtin.List.listLengthHint
  refine wpAny_bind (wpAny_specialOf hT nolen_lri ?_)
  show wpAny _ A.in1.in1 (specialOf (Value.ref it) (Str.ofString "__length_hint__") >>= _) _ _ _
  refine wpAny_bind (wpAny_specialOf hT hint_lri ?_)
  generalize hid : ("list_reverseiterator.__length_hint__" : String) = id0
  wp_delta
  rw [show splitId id0 = some ("list_reverseiterator", "__length_hint__") from by subst hid; decide +kernel]
  subst hid
  refine wpAny_bind (wpAny_isInstance (b := true) hT (by rw [isSubtype_type]; kernel_rfl) ?_)
  refine wpAny_pure ?_
  rw [if_neg (by decide)]
  have e0 : ((items.size : Nat) : Int) - 1 - ((0 : Nat) : Int) = (items.size : Int) - 1 := by omega
  refine wpAny_pure ⟨plainId_quiet F.plain_extend_loop _, codeAny_extend_loopS W hn _ hSf _ items.size 0 _ _ _ rfl (Nat.zero_le _) ⟨Nat.zero_le _, by rw [e0]; exact hit1, hl1⟩ hS2 (ItemsOf.nil _) fun s' acc' c' hm hS' hacc => ?_⟩
  refine ⟨rfl, ?_⟩
  rw [Moved.eq_with hm]
  refine hQ s'.heap s'.toks acc' c' (fun b o hb e => hm.heap b o (fun hmem => ?_) (k2 b o e)) hS' hacc
  rcases List.mem_cons.mp hmem with e' | hmem
  · exact absurd (Heap.lt_size e) (by rw [e']; exact Nat.lt_irrefl _)
  · exact hb (List.mem_singleton.mp hmem)
end
def tListRev (K : PySem.W.Frag) (te : TE) : TE := fun σ H Q => te σ H fun v H1 => ∃ (a : Addr) (xs : List V), v = .ref a ∧ SqL K H1 a xs ∧ ∀ q, H1 q = none → Q (.ref q) (upd H1 q (.lst xs.reverse))
theorem pe_listRev {X : Cx} {e : Expr} {te : TE} {p p2 pos pos2 : Pos} (hc : X.calm = true) (hg : Gl X "list") (hm : X.mg "list" = none) (hg2 : Gl X "reversed") (hm2 : X.mg "reversed" = none) (he : PE X e te)
    (hs : starEach [e] X.env = (false, eval e X.env) :: starEach [] X.env)
    (hs2 : starEach [.Call (.Name "reversed" p2) [e] [] pos2] X.env = (false, eval (.Call (.Name "reversed" p2) [e] [] pos2) X.env) :: starEach [] X.env) :
    PE X (.Call (.Name "list" p) [.Call (.Name "reversed" p2) [e] [] pos2] [] pos) (tListRev X.K te) := by
  refine ⟨fun pins s σ H Q I h => ?_⟩
  refine Call_ (ld_blt I hg hm boot_list (PyProof.Rows.callWith_type1 (args_cons (Call_ (ld_blt I hg2 hm2 PyProof.Rows.boot_reversed (PyProof.Rows.callWith_type1 (args_cons (thn (he.run pins s σ H _ I h) fun u s1 ⟨v, H1, I1, r1, q1⟩ => args_nil ?_) hs) hs rfl))) hs2) hs2 rfl))
  obtain ⟨a, xs, ev, hq, q⟩ := q1
  subst ev
  obtain rfl : u = Value.ref a := r1
  obtain ⟨its, rv, p', hz⟩ := I1.list hq
  refine call_reversed_list p'.isList (args_nil ?_)
  have k0 : ∀ b o, s1.heap.get? b = some o → (s1.heap.push (revObj a ((its.toArray.size : Int) - 1))).get? b = some o := fun b o e => Heap.get?_push_of_some _ e
  have I2 : Inv X pins σ H1 { s1 with heap := s1.heap.push (revObj a ((its.toArray.size : Int) - 1)) } := I1.kept (t' := s1.toks) k0
  obtain ⟨f0, f1, f2, f3, f4, f5⟩ := I1.fpOk (H' := H1) (b := s1.heap.objs.size) (Nat.le_refl _) (I1.hok.fresh (Nat.le_refl _))
  have hl := p'.isList
  obtain ⟨ol, hol, _⟩ := id hl
  have hne : a ≠ s1.heap.objs.size := Nat.ne_of_lt (Heap.lt_size hol)
  have hn : its.toArray.size ≤ sizeLine := by rw [List.size_toArray, ← rv.length]; exact hz
  refine call_list_rev (s := { s1 with heap := s1.heap.push (revObj a ((its.toArray.size : Int) - 1)) }) (I1.ok.hd hc) ⟨_, Heap.get?_push_size _ rfl, rfl, rfl⟩ (hl.push _) hne hn fun h' tk acc c hk hS hi => ?_
  have hsz : (s1.heap.push (revObj a ((its.toArray.size : Int) - 1))).objs.size = s1.heap.objs.size + 1 := by simp [Heap.push]
  refine ⟨.ref _, upd H1 _ (.lst xs.reverse), I2.turnedNew (t' := tk) (ch := [s1.heap.objs.size]) (T := (s1.heap.push (revObj a ((its.toArray.size : Int) - 1))).objs.size) (fun b o hb e => hk b o (fun z => hb (by rw [z]; simp)) e) (fun b hb => by
    rw [List.mem_singleton.mp hb]; exact ⟨f0, f1, f2, f3, f4, f5⟩) (Nat.le_refl _) ?_, rfl, q _ (I1.hok.fresh (by rw [hsz]; exact Nat.le_succ _))⟩
  show ObjOk X.prog X.w _ _ _ (.lst xs.reverse)
  refine ⟨by rw [List.length_reverse]; exact hz, acc.toList, c, vals_rev rv hi, ?_⟩
  rw [Array.toArray_toList]
  exact hS
section
variable {ι : Type} {X : ι → Cx} {K : PySem.W.Frag} {E : Ent} {Γ : Slots} {R R1 : List Res} {e : Expr} {pos p p2 pos2 : Pos} {s : Sl}
  {P : Program} {w : World} {mg : Str → Option Value} {base : Heap} {A : Around} {N : List Str}
/-- list(reversed(xs)), xs lasting whole numbers: new whole numbers -/
theorem ev_lrevs (F : Fam X P w K mg base A N) {ns : List Int} (hm : mg "list" = none) (hm2 : mg "reversed" = none) (h : EvJ X K E Γ R e R1 (sscr ns))
    (hg : ∀ i, Gl (X i) "list" := by exact fun _ => rfl) (hg2 : ∀ i, Gl (X i) "reversed" := by exact fun _ => rfl) (hs : ∀ i, starEach [e] (X i).env = (false, eval e (X i).env) :: starEach [] (X i).env := by exact fun _ => rfl)
    (hs2 : ∀ i, starEach [.Call (.Name "reversed" p2) [e] [] pos2] (X i).env = (false, eval (.Call (.Name "reversed" p2) [e] [] pos2) (X i).env) :: starEach [] (X i).env := by exact fun _ => rfl) (hcm : ∀ i, (X i).calm = true := by exact fun _ => rfl) :
    EvL X K E Γ R (.Call (.Name "list" p) [.Call (.Name "reversed" p2) [e] [] pos2] [] pos) R1 (ns.reverse.map .int) := by
  obtain ⟨t, h1, h2⟩ := h
  refine ⟨tListRev K t, fun i => by rw [← F.fK i]; exact pe_listRev (hcm i) (hg i) (by rw [F.fmg i]; exact hm) (hg2 i) (by rw [F.fmg i]; exact hm2) (h1 i) (hs i) (hs2 i), fun S σ H Q q kk => h2 S σ H _ q fun v S1 H1 e1 q1 r1 => ?_⟩
  obtain ⟨a, rfl, hq⟩ := r1
  refine ⟨a, ns.map V.int, rfl, same_l q1.sub hq, fun l hl => kk l _ S1 _ e1 (q1.mine hl ⟨_, rfl, ?_⟩) rfl⟩
  rw [← List.map_reverse]
  exact daAll_ints _
theorem scr_of_da {ns : List Int} : ∀ S v, (sd (.list (ns.map .int))).r K S v → (sscr ns).r K S v := fun S v h => by
  cases h with
  | lst h1 h2 =>
    have := da_ints (ds := ns.map .int) (by rw [List.all_map]; exact List.all_eq_true.mpr fun _ _ => rfl) h2
    rw [dint_ints] at this
    subst this
    exact ⟨_, rfl, SqL.of h1⟩
end
end SL

/-! lasting lists of anything; comprehensions that change what is one's own -/
namespace SL
open PySem PySem.Spec PyProof.Rows L2
/-- a lasting list of such values -/
def slst (ss : List Sl) : Sl := ⟨fun K H x => ∃ p vs, x = .ref p ∧ H p = some (.lst vs) ∧ All2 (fun (s : Sl) v => s.r K H v) ss vs, fun e ⟨p, vs, h1, h2, h3⟩ => ⟨p, vs, h1, e _ _ h2, h3.imp fun s v h => s.mono e h⟩⟩
section
variable {ι : Type} {X : ι → Cx} {K : PySem.W.Frag} {E : Ent} {B : Hp} {Γ Γ' : Slots} {R R' R1 R2' R3 : List Res} {a b c e o : Expr} {es : List Expr} {pos p' : Pos} {s s1 s2 s3 : Sl}
  {P : Program} {w : World} {mg : Str → Option Value} {base : Heap} {A : Around} {N : List Str} {x y : Str} {i j : Int} {sts : List Stmt} {D : Ends} {S H : Hp} {σ : L2.St}
theorem SR.freezeAtS {p : Addr} {ss : List Sl} (q : SR K E Γ R S σ H) (k : Nat) (hk : R[k]? = some (rLs p ss)) : ∃ S', Same S S' ∧ SR K E Γ (R.set k rE) S' σ H ∧ (slst ss).r K S' (.ref p) := by
  obtain ⟨Os, ⟨h1, h2⟩, h3⟩ := q.own
  obtain ⟨O, e1, ⟨⟨vs, hO, hv⟩, gs, gn⟩, g4⟩ := all2_split h1 hk
  subst hO
  have hop := hOne_same (p := p) (o := .lst vs)
  have hp : H p = some (.lst vs) := gs p _ hOne_same
  have sp : S p = none := gn p (by rw [hOne_same]; exact fun z => nomatch z)
  have others : ∀ (j : Nat) O', j ≠ k → Os[j]? = some O' → O' p = none := fun j O' hj e => disj_symm (pairwise_get h2 (fun _ _ => disj_symm) hj e e1) p (by rw [hop]; exact fun z => nomatch z)
  refine ⟨upd S p (.lst vs), same_new sp, ⟨fun a u e => ?_, q.ext.trans (same_new sp), q.fr, fun a ha => ?_, ⟨Os.set k (fun _ => none), ⟨g4 (fun _ => none) _ rE ⟨rfl, fun a u e => (nomatch e), fun a ha => absurd rfl ha⟩ fun j x y hj e2 e3 b => ⟨x.mono (same_new sp) b.1, b.2.1, fun a ha => ?_⟩, ?_⟩, fun O hO a ha => ?_⟩,
    q.slots.imp fun s o h1 s' e => let ⟨v, e2, e3⟩ := h1 s' e; ⟨v, e2, s'.mono (same_new sp) e3⟩⟩, ⟨p, vs, rfl, upd_same, hv.imp fun s v h => s.mono (same_new sp) h⟩⟩
  · by_cases ha : a = p
    · subst ha; rw [upd_same] at e; cases e; exact hp
    · rw [upd_ne ha] at e; exact q.sub a u e
  · by_cases e : a = p
    · subst e
      rcases h3 _ (List.mem_of_getElem? e1) a (by rw [hOne_same]; exact fun z => nomatch z) with z | z
      · exact .inr (.inr z)
      · exact .inr (.inl z)
    · rw [upd_ne e] at ha
      exact q.new a ha
  · have ne : a ≠ p := fun e => ha (by rw [e]; exact others j y hj e3)
    rw [upd_ne ne]
    exact b.2.2 a ha
  · exact pairwise_set (fun _ _ => disj_symm) h2 fun j y hj e a ha => rfl
  · rcases List.mem_or_eq_of_mem_set hO with z | z
    · exact h3 O z a ha
    · rw [z] at ha; exact absurd rfl ha
theorem blk_frzS (j k : Nat) {p : Addr} {ss : List Sl} (hr : Blk X K E B (Γ.set j (some (slst ss))) (R.set k rE) sts D) (hk : R[k]? = some (rLs p ss) := by rfl) (hj : Γ[j]? = some (some (sv (.ref p))) := by rfl) : Blk X K E B Γ R sts D := by
  obtain ⟨t, h1, h2⟩ := hr
  refine ⟨t, h1, fun S σ H b q => ?_⟩
  obtain ⟨S', e, q', hd⟩ := q.freezeAtS k hk
  refine h2 S' σ H (b.trans e) ?_
  obtain ⟨v, e2, r2⟩ := q.slot hj
  cases (show v = .ref p from r2)
  have := q'.setSlot (k := j) (v := .ref p) (s := slst ss) hd
  rwa [show σ.set j (some (.ref p)) = σ from ?_] at this
  apply List.ext_getElem?
  intro m
  by_cases hm : j = m
  · subst hm
    rw [List.getElem?_set_self (List.getElem?_eq_some_iff.mp e2).1, e2]
  · rw [List.getElem?_set_ne hm]
theorem ix_slst (F : Fam X P w K mg base A N) {ss : List Sl} (hi : atI ss i = some s) : IxJ X K E R (slst ss) (sv (.int i)) s :=
  ⟨rIxL K, fun n => by rw [← F.fK n]; exact ix_list, fun Γ S σ H x y Q q r1 r2 k' => by
    cases (show y = .int i from r2)
    obtain ⟨p, vs, rfl, h1, h2⟩ := r1
    obtain ⟨m, v, e1, e2, e3⟩ := atI_len h2.len.symm hi
    obtain ⟨v', e4, h4⟩ := h2.get e1
    rw [e2] at e4
    cases e4
    exact ⟨p, vs, i, v, rfl, rfl, SqL.of (q.sub _ _ h1), e3, k' v S H (Same.refl _) q h4⟩⟩
theorem it_slst (F : Fam X P w K mg base A N) {tg : Expr} {ss : List Sl} (h : EvJ X K E Γ R e R1 (slst ss)) : ItJ X K E Γ R tg e R1 ss CAny := by
  obtain ⟨t, a1, a2⟩ := h
  refine ⟨iList K t, fun i => by rw [← F.fK i]; exact pi_list (a1 i), fun S σ H Rk q k => a2 S σ H _ q fun v S1 H1 e1 q1 r1 => ?_⟩
  obtain ⟨p, vs, rfl, h1, h2⟩ := r1
  refine ⟨p, rfl, ⟨vs, SqL.of (q1.sub _ _ h1)⟩, k _ S1 H1 e1 q1 fun n Γ' R' S' σ' H' e' q' hC => ?_⟩
  have g1 : H' p = some (.lst vs) := q'.sub _ _ (e' _ _ h1)
  have g2 : All2 (fun (s : Sl) v => s.r K S' v) ss vs := h2.imp fun s v z => s.mono e' z
  refine ⟨fun s hs => ?_, fun hn => ⟨vs, SqL.of g1, by rw [← g2.len]; exact hn⟩⟩
  obtain ⟨x, hx, hd⟩ := g2.get hs
  refine ⟨⟨vs, x, SqL.of g1, hx⟩, fun y H'' hy => ?_⟩
  obtain ⟨rfl, hy⟩ := hy
  have := hy vs (SqL.of g1)
  rw [hx] at this
  cases this
  exact ⟨S', Same.refl _, q', hd⟩
/-- a comprehension whose elements change what is one's own -/
theorem lc_X {α γ : Type} {tg iter elt : Expr} {scope : Scope} {own : List (Str × Nat)} {C : List Res → Prop} {us : List Nat} {xs : List α} {it : α → Sl} {up : α → Slots → Slots} (I : List α → γ → Prop) (RR : List α → γ → List Res) (acc : List α → γ → List Sl)
    (F : Fam X P w K mg base A N) (hi : ItJ X K E Γ R tg iter R1 (xs.map it) C) (ok : ∀ i, BlkOk (X i).N (X i).env.scope scope own)
    (htg : Fam (BX X scope) P w K mg base A N → TgA (BX X scope) K E tg it up us) (hu : ∀ j ∈ us, j ∈ own.map (·.2))
    (g0 : γ) (hI0 : I [] g0) (h0 : R1 = RR [] g0) (ha0 : acc [] g0 = []) (hC : ∀ pre g D, I pre g → C (RR pre g ++ [rLs D (acc pre g)])) (hal : ∀ pre g, I pre g → (acc pre g).length ≤ pre.length)
    (he : Fam (BX X scope) P w K mg base A N → ∀ D pre x post g, xs = pre ++ x :: post → I pre g → EvN (BX X scope) K E (up x (wipeG Γ (own.map (·.2)))) (RR pre g ++ [rLs D (acc pre g)]) elt (fun n : {q : γ × Sl // I (pre ++ [x]) q.1 ∧ acc (pre ++ [x]) q.1 = acc pre g ++ [q.2]} => RR (pre ++ [x]) n.1.1 ++ [rLs D (acc pre g)]) (fun n => n.1.2))
    (hz : xs.length ≤ 1000000) (hs : ∀ i x, foldedSetIterable iter (X i).env x = pure x := by exact fun _ _ => rfl) (hcm : ∀ i, (X i).calm = true := by exact fun _ => rfl) :
    LcN X K E Γ R (.ListComp elt [⟨tg, iter, [], 0⟩] scope pos) (fun n : Addr × {g : γ // I xs g} => RR xs n.2.1 ++ [rLs n.1 (acc xs n.2.1)]) (fun n => sv (.ref n.1)) := by
  have htg := htg (fam_blk F)
  have he := he (fam_blk F)
  obtain ⟨wi, w1, w2⟩ := hi
  obtain ⟨g, t1, t2⟩ := htg
  have he' := fun (n : { q : Addr × List α × α × List α × γ // xs = q.2.1 ++ q.2.2.1 :: q.2.2.2.1 ∧ I q.2.1 q.2.2.2.2 }) => Classical.choose_spec (he n.1.1 n.1.2.1 n.1.2.2.1 n.1.2.2.2.1 n.1.2.2.2.2 n.2.1 n.2.2)
  refine ⟨tLc wi g tYes _ (own.map (·.2)), fun i => pe_lc (hcm i) (by rw [F.fN i]; exact F.nd) (w1 i) (ok i) (fun s H C cl fp => t1 ⟨i, s, H, C, cl, fp⟩) (fun s H C cl fp => pts_nil) (fun s H C cl fp => pe_any fun n => (he' n).1 ⟨i, s, H, C, cl, fp⟩) (hs i), fun i k y py spos hy hyl hsw => ps_setLc (hcm i) (by rw [F.fN i]; exact F.nd) hy hyl hsw (w1 i) (ok i) (fun s H C cl fp => t1 ⟨i, s, H, C, cl, fp⟩) (fun s H C cl fp => pts_nil) (fun s H C cl fp => pe_any fun n => (he' n).1 ⟨i, s, H, C, cl, fp⟩) (hs i), fun S σ H Q q kk => ?_⟩
  refine w2 S σ H _ q fun J S1 H1 e1 q1 hJ D hD => ?_
  refine ⟨fun n m H => m = xs.length - n ∧ n ≤ xs.length ∧ ∃ S' u, Same S1 S' ∧ I (xs.take n) u ∧ SR K E Γ (RR (xs.take n) u ++ [rLs D (acc (xs.take n) u)]) S' σ H, ⟨xs.length, by simp, Nat.zero_le _, S1, g0, Same.refl _, hI0, by rw [List.take_zero, ← h0, ha0]; exact q1.mine hD ⟨[], rfl, .nil⟩⟩, ?_⟩
  rintro n m H2 ⟨rfl, hn, S2, u, e2, hu2, q2⟩
  obtain ⟨g1, g2⟩ := hJ n _ _ S2 σ H2 e2 q2 (hC _ _ _ hu2)
  by_cases hlt : n < xs.length
  · have hx : xs[n]? = some xs[n] := List.getElem?_eq_getElem hlt
    have htake : xs.take (n + 1) = xs.take n ++ [xs[n]] := by rw [List.take_succ, hx]; rfl
    have hsp : xs = xs.take n ++ xs[n] :: xs.drop (n + 1) := by rw [← List.drop_eq_getElem_cons hlt, List.take_append_drop]
    obtain ⟨go, hy⟩ := g1 (it xs[n]) (by rw [List.getElem?_map, hx]; rfl)
    refine .inr ⟨go, fun H' => ∃ S' u, Same S1 S' ∧ I (xs.take (n + 1)) u ∧ SR K E Γ (RR (xs.take (n + 1)) u ++ [rLs D (acc (xs.take (n + 1)) u)]) S' σ H', fun H' ⟨S', u', h'⟩ => ⟨xs.length - (n + 1), by omega, rfl, hlt, S', u', h'⟩, fun x H' hx' => ?_⟩
    obtain ⟨S3, e3, q3, r3⟩ := hy x H' hx'
    apply t2 xs[n] _ _ S3 (wipe σ (own.map (·.2))) H' x _ (q3.reslot (wipe_slots _ q3.slots)) r3
    intro σ4 q4 o4 l4
    refine ⟨wipe_eq o4 l4 hu, ?_⟩
    simp only [tYes, if_true]
    refine ⟨⟨(D, xs.take n, xs[n], xs.drop (n + 1), u), hsp, hu2⟩, (he' ⟨(D, xs.take n, xs[n], xs.drop (n + 1), u), hsp, hu2⟩).2 S3 σ4 H' _ q4 fun z y S6 H6 e6 q6 r6 => ?_⟩
    have q6' : SR K E Γ (RR (xs.take n ++ [xs[n]]) z.1.1 ++ [rLs D (acc (xs.take n) u)]) S6 σ H6 := q6.reslot (slots_mono e6 q3.slots)
    obtain ⟨O, ⟨l, eO, hl⟩, sO⟩ := q6'.res (RR (xs.take n ++ [xs[n]]) z.1.1).length get_last
    subst eO
    refine ⟨l, sO D _ hOne_same, ?_, S6, z.1.1, (e2.trans e3).trans e6, by rw [htake]; exact z.2.1, ?_⟩
    · rw [← hl.len]
      have h3 := hal _ _ hu2
      rw [List.length_take] at h3
      have : (sizeLine : Nat) = 16777216 := sizeLine_eq
      omega
    · have h := q6'.put (o' := .lst (l ++ [y])) (ρ' := rLs D (acc (xs.take n ++ [xs[n]]) z.1.1)) (RR (xs.take n ++ [xs[n]]) z.1.1).length get_last (fun O ⟨vs, e, _⟩ => ⟨_, e⟩) ⟨_, rfl, by rw [z.2.2]; exact hl.app (.cons r6 .nil)⟩
      rw [set_last] at h
      rw [htake]
      exact h
  · have e : n = xs.length := by omega
    subst e
    rw [List.take_length] at q2 hu2
    exact .inl ⟨g2 (by rw [List.length_map]; exact Nat.le_refl _), kk (D, ⟨u, hu2⟩) _ S2 H2 (e1.trans e2) q2 rfl⟩
end
end SL

/-! freezing what a call made; putting it into a dict; another name for what is drawn -/
namespace SL
open PySem PySem.Spec PyProof.Rows L2
section
variable {ι : Type} {X : ι → Cx} {K : PySem.W.Frag} {E : Ent} {B : Hp} {Γ Γ' : Slots} {R R' R1 R2' R3 : List Res} {a b c e o : Expr} {es : List Expr} {pos p' : Pos} {s s1 s2 s3 : Sl}
  {P : Program} {w : World} {mg : Str → Option Value} {base : Heap} {A : Around} {N : List Str} {x y : Str} {i j : Int} {rest sts : List Stmt} {D : Ends} {S H : Hp} {σ : L2.St}
theorem evn_frz {μ : Type} {ds : μ → List PyData} {Rn : Addr × μ → List Res} {Rm : μ → List Res} (h : EvN X K E Γ R e Rn (fun n => sv (.ref n.1))) (k : Nat) (hk : ∀ n, (Rn n)[k]? = some (rL n.1 (ds n.2))) (hs : ∀ n, List.Sublist (Rm n.2) ((Rn n).set k rE)) : EvN X K E Γ R e Rm (fun m => sd (.list (ds m))) := by
  obtain ⟨t, h1, h2⟩ := h
  refine ⟨t, h1, fun S σ H Q q k' => h2 S σ H _ q fun p v S1 H1 e1 q1 r1 => ?_⟩
  cases (show v = .ref p.1 from r1)
  obtain ⟨S2, e2, q2, r2⟩ := q1.freezeAt k (hk p)
  exact k' p.2 _ S2 H1 (e1.trans e2) (q2.sub' (hs p)) r2
theorem evn_map {ν μ : Type} {Rn : ν → List Res} {sn : ν → Sl} {Rm : μ → List Res} {sm : μ → Sl} (f : ν → μ) (h : EvN X K E Γ R e Rn sn) (h1 : ∀ n, Rn n = Rm (f n)) (h2 : ∀ n, sn n = sm (f n)) : EvN X K E Γ R e Rm sm := by
  obtain ⟨t, a, b⟩ := h
  exact ⟨t, a, fun S σ H Q q k => b S σ H Q q fun n => by rw [h1, h2]; exact k (f n)⟩
theorem blk_putN {ν : Type} {Rn : ν → List Res} {sn : ν → Sl} {n : Nat} (F : Fam X P w K mg base A N) (hr : Room n A) (k : Nat) {p : Addr} {kss : List (Str × Sl)} {p2 : Pos} {value i : Expr} (hv : EvN X K E Γ R value Rn sn) (ho : ∀ n, EvJ X K E Γ (Rn n) o (Rn n) (sv (.ref p))) (hi : ∀ n, EvJ X K E Γ (Rn n) i (Rn n) (dS x)) (hk : ∀ n, (Rn n)[k]? = some (rDs p kss)) (hz : kss.length < 10000000)
    (hr' : ∀ n, Blk X K E B Γ ((Rn n).set k (rDs p (pt kss x (sn n)))) rest D) (hs : ∀ j, swapsWith value (some (.Subscript o i p2)) pos.line (X j).env = pure false := by exact fun _ => rfl) :
    Blk X K E B Γ R (.Assign [.Subscript o i p2] value pos :: rest) D := by
  obtain ⟨tv, v1, v2⟩ := hv
  have ho' := fun n => Classical.choose_spec (ho n)
  have hi' := fun n => Classical.choose_spec (hi n)
  have hr'' := fun n => Classical.choose_spec (hr' n)
  refine ⟨tSeq (sDPut _ _ tv) _, fun j => pss_cons (ps_dput (by rw [F.fA j]; have := hr.units; omega) (pe_any fun n => (ho' n).1 j) (pe_any fun n => (hi' n).1 j) (v1 j) (hs j)) (pss_any fun n => (hr'' n).1 j), fun S σ H b q => ?_⟩
  refine v2 S σ H _ q fun m v S1 H1 e1 q1 r1 => ⟨m, (ho' m).2 S1 σ H1 _ q1 fun vo S2 H2 e2 q2 r2 => ⟨m, (hi' m).2 S2 σ H2 _ q2 fun vi S3 H3 e3 q3 r3 => ?_⟩⟩
  cases (show vo = .ref p from r2)
  cases (show vi = .str x from r3)
  obtain ⟨kvs, h1, h2⟩ := q3.cellD k (hk m)
  have hlen := h2.len
  refine ⟨p, _, rfl, DPut.k (k := .inr x) h1 ?_, ⟨m, (hr'' m).2 S3 σ _ (b.trans ((e1.trans e2).trans e3)) (q3.putD k (hk m) (h2.put x ((sn m).mono (e2.trans e3) r1)))⟩⟩
  have : (sizeLine : Nat) = 16777216 := sizeLine_eq
  omega
end
end SL

/-! except (a, b, c): ; bodies that branch and raise -/
namespace SL
open PySem PySem.Spec PyProof.Rows L2
theorem flyZ_keeps {base : Heap} {l : List Env} {e : Addr} {Z : Obj → Prop} {h h' : Heap} (R : HandSPX.FlyingZ base l e Z h) (k : ∀ b o, h.get? b = some o → h'.get? b = some o) : HandSPX.FlyingZ base l e Z h' := by
  obtain ⟨f1, f2, f3, oe, ws, T, oT, ts, he, hz, hd, h1, hn, hne, hT, hdT, h3⟩ := R
  exact ⟨fun b o q => k b o (f1 b o q), f2, f3.of_keeps fun b o q _ => ⟨o, k b o q, rfl⟩, oe, ws, T, oT, ts, k _ _ he, hz, hd, h1, hn, hne, k _ _ hT, hdT, h3⟩
/-- what the clause wishes of an exception that it takes -/
def wTup3 (K : PySem.W.Frag) (cs : List Value) (ts : Addr → Value → Option Addr → TS) (D : Ends) : WX := fun cls d σ H => PySem.W.exmAny K cls cs = some true ∧ ∀ a, H a = none → ts a cls d D σ H
section
variable {X : Cx} {x1 x2 x3 : Str} {c1 c2 c3 : Value} {body suite : List Stmt} {b₀ : Stmt} {p1 p2 p3 tp pos pos' : Pos} {kk : Nat} {tb : WX → TS} {ts : Addr → Value → Option Addr → TS}
theorem ps_try_tup3 (hs : X.stack = X.env :: X.outer) (hf : X.env.frame = some X.env.locals) (hc1 : Names X x1 c1) (hc2 : Names X x2 c2) (hc3 : Names X x3 c3)
    (hb : ∀ (W : WX) (pn : List (Addr × Obj)) (xe : Value → Shared → Prop), Takes (X.tr pn xe) W → PassesOwn (model X.prog X.w) X.A X.env xe → PSs (X.tr pn xe) body (tb W))
    (hsu : ∀ (a : Addr) (oe : Obj) (cls : Value) (d : Option Addr) (pn : List (Addr × Obj)), Zc cls d oe → (∃ vs, oe.data = .fields vs) → PSs (X.suite a ((a, oe) :: pn)) (b₀ :: suite) (ts a cls d)) :
    PS X (.Try body [.ExceptHandler (some (.Tuple [.Name x1 p1, .Name x2 p2, .Name x3 p3] kk tp)) none (b₀ :: suite) pos'] [] [] pos) (fun D σ H => tb (wTup3 X.K [c1, c2, c3] ts D) D σ H) := by
  refine ⟨fun pins s σ H D I h => ?_⟩
  have ok := I.ok
  have hfr : X.A.frames = some (X.env :: X.outer) := by rw [ok.frames, hs]
  refine wpAny_Try_except ?_
  refine wpAny_mono ((hb (wTup3 X.K [c1, c2, c3] ts D) (X.pn ++ pins) (fun e s₁ => wpAny (model X.prog X.w) X.A (noteFrame e X.env) (fun _ s₂ => wpAny (model X.prog X.w) X.A (setFlight e none) (fun _ s₃ =>
    wpAny (model X.prog X.w) X.A (handleBy e X.env [.ExceptHandler (some (.Tuple [.Name x1 p1, .Name x2 p2, .Name x3 p3] kk tp)) none (b₀ :: suite) pos']) (SP X pins D) X.xe s₃) X.xe s₂) X.xe s₁) (fun u s' xx => ?_) PassesOwn.looking).run [] s σ H D (I.toTry _) h) (fun f s1 hsp => ?_) (fun e s1 he => he)
  · obtain ⟨a, B, sI, pins', σ', H', cls, d, rfl, J', nb, up, sky, na, os, ag, hb1, hyes⟩ := xx
    have J : Inv X pins σ' H' sI := J'.ofTry ok
    have sky' : Sky B (X.env :: X.outer) a (Zc cls d) X.env.locals s'.heap := by rw [← hs]; exact sky
    show wpAny (model X.prog X.w) X.A (noteFrame (.ref a) X.env) _ _ _
    refine Sky.land Zc.steady hfr hf sky' fun h3 fl3 up3 => ?_
    have J3 : Inv X pins σ' H' { s' with heap := h3 } := J.landed nb fl3.1 (up.trans up3) os ag
    obtain ⟨oe3, vs3, he3, hz3, hd3⟩ := fl3.there
    have notFr : ∀ {h : Heap} {o : Obj} {vs : Array Value}, h.FunFrames B (X.env :: X.outer) → h.get? a = some o → o.data = .fields vs → a ∉ frs (X.env :: X.outer) := fun {h o vs} ff e dd hm => by
      obtain ⟨_, o', e', hnf⟩ := ff.mem hm
      rw [e] at e'; cases e'
      exact hnf _ dd
    have nfr := notFr fl3.2.2.1 he3 hd3
    have nL : a ≠ X.env.locals := fun z => nfr (List.mem_filterMap.mpr ⟨X.env, List.mem_cons_self, by rw [hf, z]⟩)
    have nF : a ∉ X.fs := fun hm => by
      obtain ⟨e, he, q⟩ := List.mem_filterMap.mp hm
      exact nfr (List.mem_filterMap.mpr ⟨e, List.mem_cons_of_mem _ he, q⟩)
    have S3 := J3.suite he3 hd3 na nL nF
    refine wpAny_handleBy_cons (codeAny_handlers_test ?_) (by intro q; cases q)
    have test : ∀ {x : Str} {c : Value} {np : Pos} {Q : Value → Shared → Prop} {E : Value → Shared → Prop}, Names X x c → Q c { s' with heap := h3 } → wpAny (model X.prog X.w) (X.A.mark (some (.ref a))) (eval (.Name x np) X.env) Q E { s' with heap := h3 } := fun {x c np Q E} hc q => by
      obtain ⟨hg, hdbg, hm | ⟨hm, hv, hnn⟩⟩ := hc
      · exact ld_glob (X := X.suite a ((a, oe3) :: (X.pn ++ pins))) S3 hg hm q hdbg
      · exact ld_blt (X := X.suite a ((a, oe3) :: (X.pn ++ pins))) S3 hg hm hv q hnn hdbg
    refine wpAny_Tuple ?_
    refine wpAny_items_cons (test hc1 ?_)
    refine wpAny_items_cons (test hc2 ?_)
    refine wpAny_items_cons (test hc3 ?_)
    refine wpAny_items_nil ⟨by size_fits, ?_⟩
    have kp : ∀ q o, h3.get? q = some o → (h3.push { cls := .type "tuple", data := .seq [c1, c2, c3].toArray }).get? q = some o := fun _ _ z => Heap.get?_push_of_some _ z
    have LT : PySem.W.Looks (model X.prog X.w) (h3.push { cls := .type "tuple", data := .seq [c1, c2, c3].toArray }) (typeOf (.ref a)) cls := fun A Q E s k q => wpAny_typeOf_ref (k _ _ (kp _ _ he3)) (by rw [hz3.1]; exact q)
    have LM := PySem.W.exm_tup3 (M := model X.prog X.w) (J3.kIn.keeps kp) LT (Heap.get?_push_size h3 rfl) hb1
    refine LM.here ?_
    have flp := flyZ_keeps fl3 kp
    have upp : s'.heap.UpToSlots (h3.push { cls := .type "tuple", data := .seq [c1, c2, c3].toArray }) := up3.trans (Heap.UpToSlots.of_keeps kp)
    refine codeAny_handlers_suite ?_
    refine HandSPX.lands_againZ flp fun h4 fl4 up4 => ?_
    have J4 : Inv X pins σ' H' { s' with heap := h4 } := J.landed nb fl4.1 ((up.trans upp).trans up4) os ag
    obtain ⟨oe4, vs4, he4, hz4, hd4⟩ := fl4.there
    have S4 := J4.suite he4 hd4 na nL nF
    refine wpAny_mono ((hsu a oe4 cls d (X.pn ++ pins) hz4 ⟨_, hd4⟩).run [] _ _ H' _ S4 (hyes a na)) (fun f s6 hsp => ?_) (fun _ _ z => False.elim z)
    cases f with
    | next =>
      obtain ⟨σ6, H6, S6, q6⟩ := hsp
      exact ⟨_, _, S6.unsuite ok, q6⟩
    | brk =>
      obtain ⟨σ6, H6, S6, q6⟩ := hsp
      exact ⟨_, _, S6.unsuite ok, q6⟩
    | cont =>
      obtain ⟨σ6, H6, S6, q6⟩ := hsp
      exact ⟨_, _, S6.unsuite ok, q6⟩
    | ret u =>
      obtain ⟨v6, σ6, H6, S6, r6, q6⟩ := hsp
      exact ⟨_, _, _, S6.unsuite ok, r6, q6⟩
  · cases f with
    | next =>
      obtain ⟨σ', H', J', q⟩ := hsp
      exact wpAny_execs_nil ⟨σ', H', J'.ofTry ok, q⟩
    | brk =>
      obtain ⟨σ', H', J', q⟩ := hsp
      exact ⟨σ', H', J'.ofTry ok, q⟩
    | cont =>
      obtain ⟨σ', H', J', q⟩ := hsp
      exact ⟨σ', H', J'.ofTry ok, q⟩
    | ret u =>
      obtain ⟨v, σ', H', J', r, q⟩ := hsp
      exact ⟨v, σ', H', J'.ofTry ok, r, q⟩
end
section
variable {ι : Type} {X : ι → Cx} {K : PySem.W.Frag} {E : Ent} {B : Hp} {Γ Γ' : Slots} {R R' R1 R2' R3 : List Res} {a b c e : Expr} {es : List Expr} {pos p' : Pos} {s s1 s2 s3 : Sl}
  {P : Program} {w : World} {mg : Str → Option Value} {base : Heap} {A : Around} {N ps : List Str} {rest sts : List Stmt} {D : Ends} {S S' H H' : Hp} {σ σ' : L2.St} {f : Str} {C : Addr} {W : WX}
theorem body_if (F : Fam X P w K mg base A N) {bd be : List Stmt} {k : Bool} (hc : ∀ W, Fam (XT X W) P w K mg base A N → TeJ (XT X W) K E Γ R c k) (ha : k = true → BodyR X K E Γ R bd C R') (hb : k = false → BodyR X K E Γ R be C R') : BodyR X K E Γ R [.If c bd be pos] C R' := by
  intro W
  obtain ⟨tc, c1, c2⟩ := hc W (fam_try F)
  cases k with
  | true =>
    obtain ⟨t, h1, h2⟩ := ha rfl W
    exact ⟨tIfS tc t (fun _ _ _ => False), fun i => pss_one (ps_if (c1 i) (h1 i) pss_of_never), fun S σ H D q kk => c2 S σ H _ q fun S1 H1 e1 q1 => iteT (h2 S1 σ H1 D q1 fun S' H' e' q' => kk S' H' (e1.trans e') q')⟩
  | false =>
    obtain ⟨t, h1, h2⟩ := hb rfl W
    exact ⟨tIfS tc (fun _ _ _ => False) t, fun i => pss_one (ps_if (c1 i) pss_of_never (h1 i)), fun S σ H D q kk => c2 S σ H _ q fun S1 H1 e1 q1 => iteF (h2 S1 σ H1 D q1 fun S' H' e' q' => kk S' H' (e1.trans e') q')⟩
theorem blk_tryTup3 (F : Fam X P w K mg base A N) {x1 x2 x3 : Str} {cx1 cx2 cx3 : Value} {body suite : List Stmt} {b₀ : Stmt} {p1 p2 p3 tp pos' : Pos} {kk : Nat} (hb : BodyR X K E Γ R body C R1) (hm1 : mg x1 = some cx1) (hm2 : mg x2 = some cx2) (hm3 : mg x3 = some cx3) (hx : PySem.W.exmAny K (.ref C) [cx1, cx2, cx3] = some true)
    (hsu : ∀ a, Fam (XO X C a) P w K mg base (A.mark (some (.ref a))) N → Blk (XO X C a) K E B Γ R1 (b₀ :: suite) { nx := Pst K E B Γ' R', rt := D.rt, bk := D.bk, ct := D.ct })
    (hr : Blk X K E B Γ' R' rest D)
    (hst : ∀ i, (X i).stack = (X i).env :: (X i).outer := by exact fun _ => rfl) (hf : ∀ i, (X i).env.frame = some (X i).env.locals := by exact fun _ => rfl) (hg1 : ∀ i, Gl (X i) x1 := by exact fun _ => rfl) (hg2 : ∀ i, Gl (X i) x2 := by exact fun _ => rfl) (hg3 : ∀ i, Gl (X i) x3 := by exact fun _ => rfl)
    (hdb : ((x1 == ("__debug__" : Str)) = false ∧ (x2 == ("__debug__" : Str)) = false) ∧ (x3 == ("__debug__" : Str)) = false := by decide) :
    Blk X K E B Γ R (.Try body [.ExceptHandler (some (.Tuple [.Name x1 p1, .Name x2 p2, .Name x3 p3] kk tp)) none (b₀ :: suite) pos'] [] [] pos :: rest) D := by
  have hb' := fun W => Classical.choose_spec (hb W)
  have hs' := fun a => Classical.choose_spec (hsu a (fam_suiteO F a))
  obtain ⟨u, g1, g2⟩ := hr
  let ts : Addr → Value → Option Addr → TS := fun a cls d D σ H => (cls = .ref C ∧ d = none) ∧ Classical.choose (hsu a (fam_suiteO F a)) D σ H
  have hts : ∀ i (a : Addr) (oe : Obj) (cls : Value) (d : Option Addr) (pn : List (Addr × Obj)), Zc cls d oe → (∃ vs, oe.data = .fields vs) → PSs ((X i).suite a ((a, oe) :: pn)) (b₀ :: suite) (ts a cls d) := fun i a oe cls d pn hz hfl =>
    ⟨fun pins s σ H D I ⟨⟨e1, e2⟩, q⟩ => by
      subst e1 e2
      exact ((hs' a).1 ⟨(i, oe, pn), hz, hfl⟩).run pins s σ H D I q⟩
  have hps : ∀ i, PS (X i) (.Try body [.ExceptHandler (some (.Tuple [.Name x1 p1, .Name x2 p2, .Name x3 p3] kk tp)) none (b₀ :: suite) pos'] [] [] pos) (fun D σ H => Classical.choose (hb (wTup3 K [cx1, cx2, cx3] ts D)) D σ H) := fun i => by
    have h := ps_try_tup3 (p1 := p1) (p2 := p2) (p3 := p3) (tp := tp) (kk := kk) (pos := pos) (pos' := pos') (tb := fun W => Classical.choose (hb W)) (hst i) (hf i) ⟨hg1 i, hdb.1.1, .inl (by rw [F.fmg i]; exact hm1)⟩ ⟨hg2 i, hdb.1.2, .inl (by rw [F.fmg i]; exact hm2)⟩ ⟨hg3 i, hdb.2, .inl (by rw [F.fmg i]; exact hm3)⟩ (fun W pn xe tk ps => (hb' W).1 ⟨(i, pn, xe), takesN tk, ps⟩) (hts i)
    rw [F.fK i] at h
    exact h
  refine ⟨Evl.tCut _ u, fun i => Evl.pss_cut (hps i) (g1 i), fun S σ H b q => ⟨Pst K E B Γ' R', ?_, fun σ' H' ⟨S2, e2, q2⟩ => g2 S2 σ' H' e2 q2⟩⟩
  refine (hb' _).2 S σ H _ q fun S' H' e' q' => ⟨hx, fun a ha => ⟨⟨rfl, rfl⟩, ?_⟩⟩
  exact (hs' a).2 S' _ H' (b.trans e') q'
theorem exm3_1 {cls c1 c2 c3 : Value} {b2 b3 : Bool} (h1 : PySem.W.exmOne K cls c1 = some true) (h2 : PySem.W.exmOne K cls c2 = some b2) (h3 : PySem.W.exmOne K cls c3 = some b3) : PySem.W.exmAny K cls [c1, c2, c3] = some true := by
  simp [PySem.W.exmAny, h1, h2, h3]
theorem exm3_2 {cls c1 c2 c3 : Value} {b1 b3 : Bool} (h1 : PySem.W.exmOne K cls c1 = some b1) (h2 : PySem.W.exmOne K cls c2 = some true) (h3 : PySem.W.exmOne K cls c3 = some b3) : PySem.W.exmAny K cls [c1, c2, c3] = some true := by
  simp [PySem.W.exmAny, h1, h2, h3]
theorem exm3_3 {cls c1 c2 c3 : Value} {b1 b2 : Bool} (h1 : PySem.W.exmOne K cls c1 = some b1) (h2 : PySem.W.exmOne K cls c2 = some b2) (h3 : PySem.W.exmOne K cls c3 = some true) : PySem.W.exmAny K cls [c1, c2, c3] = some true := by
  simp [PySem.W.exmAny, h1, h2, h3]
end
end SL

/-! whither the movers go: the dealing, seen from behind it -/
namespace SL
open PySem PySem.Spec PyProof.Rows L2
def cntS (st : List (Str × Option Str)) (n : Str) : Nat := (st.filter fun x => decide (x.2 = some n)).length
theorem cnt_map {x m n : Str} : ∀ {st : List (Str × Option Str)}, (st.map Prod.fst).Nodup → lk st x = some none → cntS (st.map fun a => if a.1 = x then (a.1, some m) else a) n = cntS st n + if m = n then 1 else 0
  | [], _, h => nomatch h
  | (k, v) :: st, nd, h => by
    obtain ⟨n1, n2⟩ := List.nodup_cons.mp nd
    by_cases e : k = x
    · rw [lk_pos e] at h
      have hv : v = none := Option.some.inj h
      have ht : (st.map fun a => if a.1 = x then (a.1, some m) else a) = st := by
        refine (List.map_congr_left fun a ha => ?_).trans (List.map_id st)
        rw [if_neg fun z => n1 (by show k ∈ _; rw [e, ← z]; exact List.mem_map.mpr ⟨a, ha, rfl⟩)]; rfl
      subst hv
      unfold cntS
      rw [List.map_cons, if_pos e, ht, List.filter_cons, List.filter_cons]
      by_cases c : m = n
      · subst c; simp
      · simp [c]
    · rw [lk_neg e] at h
      have ih := cnt_map (m := m) (n := n) n2 h
      unfold cntS at ih ⊢
      rw [List.map_cons, if_neg e, List.filter_cons, List.filter_cons]
      by_cases c : v = some n
      · rw [if_pos (decide_eq_true c), if_pos (decide_eq_true c), List.length_cons, List.length_cons, ih]; omega
      · rw [if_neg (by simp [c]), if_neg (by simp [c])]; exact ih
theorem pt_map {st : List (Str × Option Str)} {x : Str} {u v : Option Str} (h : lk st x = some u) : pt st x v = st.map fun a => if a.1 = x then (a.1, v) else a := by
  unfold pt
  rw [any_lk, h]
  rfl
theorem moved_rows : ∀ (ps : List ((Str × Option Str) × Str)) (g : HS), (ps.foldl movedStep g).rows = g.rows ∧ (ps.foldl movedStep g).extra = g.extra
  | [], g => ⟨rfl, rfl⟩
  | p :: ps, g => moved_rows ps (movedStep g p)
theorem held_moved : ∀ {ps : List ((Str × Option Str) × Str)} {g : HS}, (g.stand.map Prod.fst).Nodup → (ps.map fun p => p.1.1).Nodup → (∀ p ∈ ps, lk g.stand p.1.1 = some none) → ∀ n, heldH (ps.foldl movedStep g) n = heldH g n + (ps.map Prod.snd).count n
  | [], g, _, _, _, n => rfl
  | p :: ps, g, nd, np, hp, n => by
    obtain ⟨n1, n2⟩ := List.nodup_cons.mp np
    have h0 := hp p (List.mem_cons_self ..)
    have ih := held_moved (ps := ps) (g := movedStep g p) (pt_nd nd) n2 (fun q hq => by
      show lk (pt g.stand p.1.1 (some p.2)) q.1.1 = _
      rw [lk_pt, if_neg fun z => n1 (by show p.1.1 ∈ _; rw [← z]; exact List.mem_map.mpr ⟨q, hq, rfl⟩)]
      exact hp q (List.mem_cons_of_mem _ hq)) n
    show heldH (ps.foldl movedStep (movedStep g p)) n = _
    rw [ih]
    have e1 : heldH (movedStep g p) n = heldH g n + if p.2 = n then 1 else 0 := by
      show cntS (pt g.stand p.1.1 (some p.2)) n = _
      rw [pt_map h0]
      exact cnt_map nd h0
    rw [e1, List.map_cons, List.count_cons]
    by_cases c : p.2 = n
    · rw [if_pos c, if_pos (beq_iff_eq.mpr c)]; omega
    · rw [if_neg c, if_neg fun z => c (beq_iff_eq.mp z)]; omega
theorem sumF_add (f g : Nat → Int) : ∀ n, sumF (fun k => f k + g k) n = sumF f n + sumF g n
  | 0 => rfl
  | n + 1 => by show sumF (fun k => f k + g k) n + (f n + g n) = (sumF f n + f n) + (sumF g n + g n); rw [sumF_add f g n]; omega
theorem deal_in {ws caps : List Int} : ∀ (m : Nat) (now : List Int) {p : Nat}, p ∈ dealD ws caps m now → p < now.length
  | 0, _, _, h => nomatch h
  | m + 1, now, p, h => by
    unfold dealD at h
    cases e : nextD now ws caps with
    | none => rw [e] at h; exact nomatch h
    | some p0 =>
      rw [e] at h
      rcases List.mem_cons.mp h with z | z
      · subst z; exact (next_in e).1
      · have := deal_in m _ z
        rwa [List.length_set] at this
abbrev SX0 : Sx := ("", "", 0, false, false, 0)
theorem count_goes {L : List Sx} (nd : (L.map (·.1)).Nodup) {j : Nat} (hj : j < L.length) : ∀ {js : List Nat}, (∀ p ∈ js, p < L.length) → (js.map fun k => (L.getD k SX0).1).count (L.getD j SX0).1 = js.count j
  | [], _ => rfl
  | p :: js, h => by
    have ih := count_goes nd hj (js := js) fun q hq => h q (List.mem_cons_of_mem _ hq)
    have hp := h p (List.mem_cons_self ..)
    rw [List.map_cons, List.count_cons, List.count_cons, ih]
    by_cases c : p = j
    · subst c; simp
    · have : ¬ (L.getD p SX0).1 = (L.getD j SX0).1 := fun e => c (by
        have h1 : (L.map (·.1))[p]? = some (L.getD p SX0).1 := by rw [List.getElem?_map, List.getElem?_eq_getElem hp, List.getD_eq_getElem?_getD, List.getElem?_eq_getElem hp]; rfl
        have h2 : (L.map (·.1))[j]? = some (L.getD j SX0).1 := by rw [List.getElem?_map, List.getElem?_eq_getElem hj, List.getD_eq_getElem?_getD, List.getElem?_eq_getElem hj]; rfl
        exact (List.getElem?_inj (by rw [List.length_map]; exact hp) nd).mp (by rw [h1, h2, e]))
      rw [if_neg fun z => this (beq_iff_eq.mp z), if_neg fun z => c (beq_iff_eq.mp z)]
/-- a dealing among the live, seen from behind it -/
structure Deal (L : List Sx) (extra : Int) (now0 : List Int) (js : List Nat) : Prop where
  len : now0.length = L.length
  eq : js = dealD (wtsL' L) (capsA (heldL' L).sum (wtsL' L) extra) js.length now0
  lt : ∀ p ∈ js, p < L.length
  held : ∀ k, k < L.length → (heldL' L).getD k 0 = now0.getD k 0 + (js.count k : Nat)
  nn : ∀ k, 0 ≤ now0.getD k 0
  nd : (L.map (·.1)).Nodup
  ok : sxOk L ∧ L.length ≤ 100
abbrev namesJ (L : List Sx) (js : List Nat) : List Str := js.map fun k => (L.getD k SX0).1
section
variable {U : List Str} {h : HS} {k : Nat}
theorem unset_keys' : ∀ {xs : List Str} {st : List (Str × Option Str)}, (∀ x ∈ xs, x ∈ st.map Prod.fst) → (unset st xs).map Prod.fst = st.map Prod.fst := fun {xs st} h => by
  rw [unset_map h, List.map_map]
  refine List.map_congr_left fun a _ => ?_
  show (if a.1 ∈ xs then (a.1, none) else a).1 = a.1
  split <;> rfl
theorem unset_lk {xs : List Str} {st : List (Str × Option Str)} (hin : ∀ x ∈ xs, x ∈ st.map Prod.fst) {x : Str} (hx : x ∈ xs) : lk (unset st xs) x = some none := by
  have : ∀ {st : List (Str × Option Str)}, x ∈ st.map Prod.fst → lk (st.map fun a => if a.1 ∈ xs then (a.1, none) else a) x = some none := by
    intro st
    induction st with
    | nil => intro h; exact nomatch h
    | cons a st ih =>
      intro h
      rw [List.map_cons]
      obtain ⟨ak, av⟩ := a
      by_cases e : ak = x
      · subst e
        rw [if_pos hx]
        exact lk_pos rfl
      · have h2 : x ∈ st.map Prod.fst := (List.mem_cons.mp h).resolve_left fun z => e z.symm
        by_cases c : ak ∈ xs
        · rw [if_pos c, lk_neg e]; exact ih h2
        · rw [if_neg c, lk_neg e]; exact ih h2
  rw [unset_map hin]
  exact this (hin x hx)
theorem live_nd (nd : (h.rows.map RowS.name).Nodup) : ((liveH h).map (·.1)).Nodup := by
  rw [liveH_rows, List.map_map]
  exact nd.sublist ((List.filter_sublist).map _)
theorem move_deal (i : HInv U h k) (u : UOk U) {xs : List Str} (nd : xs.Nodup) (hin : ∀ x ∈ xs, x ∈ h.stand.map Prod.fst) (hne : liveH { h with stand := unset h.stand xs } ≠ []) :
    ∃ now0 js, Deal (liveH (moveH h xs)) h.extra now0 js ∧ js.length = xs.length ∧ goesA (liveH { h with stand := unset h.stand xs }) h.extra xs.length = namesJ (liveH (moveH h xs)) js := by
  obtain ⟨h1, hh1⟩ : ∃ z : HS, z = { h with stand := unset h.stand xs } := ⟨_, rfl⟩
  have hr1 : h1.rows = h.rows := by rw [hh1]
  have hx1 : h1.extra = h.extra := by rw [hh1]
  have hs1 : h1.stand = unset h.stand xs := by rw [hh1]
  have lx : sxOk (liveH h1) := by rw [hh1]; exact lsx_st i u _
  rw [← hh1] at hne ⊢
  obtain ⟨g1, g2⟩ := goes_ok lx hne (extra := h.extra) i.extra.1 xs.length
  obtain ⟨h2, hh2⟩ : ∃ z, z = moveH h xs := ⟨_, rfl⟩
  have em : h2 = ((xs.zip (oldsH h xs)).zip (goesA (liveH h1) h.extra xs.length)).foldl movedStep h1 := by
    rw [hh2]
    unfold moveH
    show (if liveH { h with stand := unset h.stand xs } = [] then _ else _) = _
    rw [← hh1, if_neg hne]
  have ol : (oldsH h xs).length = xs.length := by unfold oldsH; rw [List.length_map]
  have zl : (xs.zip (oldsH h xs)).length = xs.length := by rw [List.length_zip, ol, Nat.min_self]
  have hr2 : h2.rows = h.rows := by rw [em, (moved_rows _ _).1, hr1]
  rw [← hh2]
  obtain ⟨R, hR⟩ : ∃ z, z = h.rows.filter fun r => r.well && !r.dr := ⟨_, rfl⟩
  have l1 : liveH h1 = R.map (sxH h1) := by rw [liveH_rows, hr1, ← hR]
  have l2 : liveH h2 = R.map (sxH h2) := by rw [liveH_rows, hr2, ← hR]
  have ll : (liveH h2).length = (liveH h1).length := by rw [l1, l2, List.length_map, List.length_map]
  have ln : (liveH h2).map (·.1) = (liveH h1).map (·.1) := by rw [l1, l2, List.map_map, List.map_map]; rfl
  have lw : wtsL' (liveH h2) = wtsL' (liveH h1) := by unfold wtsL'; rw [l1, l2, List.map_map, List.map_map]; rfl
  have nd2 : ((liveH h2).map (·.1)).Nodup := live_nd (by rw [hr2]; exact i.nd)
  have lg : ∀ j, ((liveH h2).getD j SX0).1 = ((liveH h1).getD j SX0).1 := fun j => by
    have e1 : ((liveH h2).map (·.1))[j]? = ((liveH h1).map (·.1))[j]? := by rw [ln]
    rw [List.getElem?_map, List.getElem?_map] at e1
    rw [List.getD_eq_getElem?_getD, List.getD_eq_getElem?_getD]
    cases ea : (liveH h2)[j]? with
    | none => cases eb : (liveH h1)[j]? with
      | none => rfl
      | some b => rw [ea, eb] at e1; exact nomatch e1
    | some a => cases eb : (liveH h1)[j]? with
      | none => rw [ea, eb] at e1; exact nomatch e1
      | some b => rw [ea, eb] at e1; exact Option.some.inj e1
  obtain ⟨js, hjs⟩ : ∃ z, z = spotsA (liveH h1) h.extra xs.length := ⟨_, rfl⟩
  have jl : js.length = xs.length := by
    have : (goesA (liveH h1) h.extra xs.length).length = js.length := by rw [hjs]; unfold goesA; rw [List.length_map]
    omega
  have gN : goesA (liveH h1) h.extra xs.length = namesJ (liveH h2) js := by
    unfold goesA namesJ
    rw [← hjs]
    exact List.map_congr_left fun j _ => (lg j).symm
  have nl : (heldL' (liveH h1)).length = (liveH h1).length := List.length_map ..
  have jlt : ∀ p ∈ js, p < (liveH h2).length := fun p hp => by
    rw [hjs] at hp
    have := deal_in _ _ hp
    rw [nl] at this
    rw [ll]; exact this
  have heldK : ∀ j, j < (liveH h2).length → (heldL' (liveH h2)).getD j 0 = (heldL' (liveH h1)).getD j 0 + (js.count j : Nat) := fun j hj => by
    have hjR : j < R.length := by rw [l2, List.length_map] at hj; exact hj
    have eN : ((liveH h2).getD j SX0).1 = R[j].name := by rw [l2, List.getD_eq_getElem?_getD, List.getElem?_map, List.getElem?_eq_getElem hjR]; rfl
    have e2 : (heldL' (liveH h2)).getD j 0 = (heldH h2 R[j].name : Int) := by unfold heldL'; rw [l2, List.getD_eq_getElem?_getD, List.getElem?_map, List.getElem?_map, List.getElem?_eq_getElem hjR]; rfl
    have e1 : (heldL' (liveH h1)).getD j 0 = (heldH h1 R[j].name : Int) := by unfold heldL'; rw [l1, List.getD_eq_getElem?_getD, List.getElem?_map, List.getElem?_map, List.getElem?_eq_getElem hjR]; rfl
    have km : heldH h2 R[j].name = heldH h1 R[j].name + js.count j := by
      rw [em, held_moved (by rw [hs1, unset_keys' hin]; exact i.snd) (by
        have : (((xs.zip (oldsH h xs)).zip (goesA (liveH h1) h.extra xs.length)).map fun p => p.1.1) = xs := by
          have e : (fun p : (Str × Option Str) × Str => p.1.1) = Prod.fst ∘ Prod.fst := rfl
          rw [e, ← List.map_map, List.map_fst_zip (by omega), List.map_fst_zip (by omega)]
        rw [this]; exact nd) (fun p hp => by
        rw [hs1]
        exact unset_lk hin (List.of_mem_zip (List.of_mem_zip hp).1).1), List.map_snd_zip (by omega), gN, ← eN, count_goes nd2 hj jlt]
    rw [e2, e1, km]
    push_cast
    rfl
  have hsum : (heldL' (liveH h2)).sum = (heldL' (liveH h1)).sum + (js.length : Nat) := by
    have a2 := map_sumF (fun x : Int => x) 0 (heldL' (liveH h2))
    have a1 := map_sumF (fun x : Int => x) 0 (heldL' (liveH h1))
    rw [List.map_id'] at a1 a2
    have n2 : (heldL' (liveH h2)).length = (liveH h2).length := List.length_map ..
    rw [a2, a1, n2, nl, ← ll, ← sum_count js (liveH h2).length jlt, ← sumF_add]
    exact sumF_congr fun j hj => heldK j hj
  refine ⟨heldL' (liveH h1), js, ⟨by rw [nl, ll], ?_, jlt, heldK, fun j => ?_, nd2, ?_, ?_⟩, jl, gN⟩
  · rw [jl, lw, hsum, jl]
    exact hjs
  · rw [List.getD_eq_getElem?_getD]
    cases e : (heldL' (liveH h1))[j]? with
    | none => exact Int.le_refl _
    | some v =>
      obtain ⟨p, hp, rfl⟩ := List.mem_map.mp (List.mem_of_getElem? e)
      exact (lx p hp).2.2.2.2
  · rw [l2]
    intro p hp
    obtain ⟨r, hr, rfl⟩ := List.mem_map.mp hp
    rw [hR] at hr
    obtain ⟨⟨g1, g2, g3, g4⟩, _⟩ := i.rows r (List.mem_filter.mp hr).1
    exact ⟨u.nm _ g1, (u.nm _ g2).1, g3, g4, Int.natCast_nonneg _⟩
  · rw [l2, List.length_map, hR]
    exact Nat.le_trans (List.length_filter_le _ _) (Nat.le_trans (i.few u) (by decide))
end
end SL

/-! which deeds move; the best place by names; the dealing step by step; heights -/
namespace SL
open PySem PySem.Spec PyProof.Rows L2
def isMv : En → Bool
  | .moved _ _ _ => true
  | _ => false
def isLost : En → Bool
  | .lost _ _ => true
  | _ => false
def stillE (e : En) : Prop := isMv e = false ∧ isLost e = false
def moveS (h : HS) : Deed → Option (List En × HS × List Str)
  | .out n => match rowAt h.rows n with
    | some p => some ([.out n], outH0 h p.1 p.2, atH h [n])
    | none => none
  | .look n g => match rowAt h.rows n with
    | some p => if g = p.2.well then none else if (if p.2.well then h.fall else h.rise) = p.2.cnt + 1 then (if p.2.well then some ([.word (!p.2.well) p.2.name], turnH h p.1 p.2, atH h [p.2.name]) else none) else none
    | none => none
  | .falls z => if z ∈ h.rows.map RowS.zone then some ((fallenL h.rows z).map (En.word false), fallsH0 h z, atH h (fallenL h.rows z)) else none
  | .evening => some ([], h, goersH h)
  | _ => none
section
variable {U : List Str} {h : HS} {k : Nat}
theorem moveS_no {d : Deed} (e : moveS h d = none) : ∀ x ∈ dueE h d, stillE x := by
  cases d with
  | put n z w =>
    show ∀ x ∈ (match rowAt h.rows n with | some _ => [] | none => [En.put n z w]), stillE x
    cases rowAt h.rows n with
    | some p => intro x hx; exact nomatch hx
    | none => intro x hx; rw [List.mem_singleton.mp hx]; exact ⟨rfl, rfl⟩
  | weigh n w =>
    show ∀ x ∈ (match rowAt h.rows n with | some _ => [En.weigh n w] | none => []), stillE x
    cases rowAt h.rows n with
    | none => intro x hx; exact nomatch hx
    | some p => intro x hx; rw [List.mem_singleton.mp hx]; exact ⟨rfl, rfl⟩
  | drain n =>
    show ∀ x ∈ (match rowAt h.rows n with | some p => if p.2.dr then [] else [En.drain n] | none => []), stillE x
    cases rowAt h.rows n with
    | none => intro x hx; exact nomatch hx
    | some p =>
      show ∀ x ∈ (if p.2.dr then [] else [En.drain n]), stillE x
      split
      · intro x hx; exact nomatch hx
      · intro x hx; rw [List.mem_singleton.mp hx]; exact ⟨rfl, rfl⟩
  | fill n =>
    show ∀ x ∈ (match rowAt h.rows n with | some p => if p.2.dr then [En.fill n] else [] | none => []), stillE x
    cases rowAt h.rows n with
    | none => intro x hx; exact nomatch hx
    | some p =>
      show ∀ x ∈ (if p.2.dr then [En.fill n] else []), stillE x
      split
      · intro x hx; rw [List.mem_singleton.mp hx]; exact ⟨rfl, rfl⟩
      · intro x hx; exact nomatch hx
  | out n =>
    have e : (match rowAt h.rows n with | some p => some ([En.out n], outH0 h p.1 p.2, atH h [n]) | none => none) = none := e
    show ∀ x ∈ (match rowAt h.rows n with | some p => En.out n :: moveE (outH0 h p.1 p.2) (atH h [n]) | none => []), stillE x
    cases hr : rowAt h.rows n with
    | none => intro x hx; exact nomatch hx
    | some p => rw [hr] at e; exact nomatch e
  | look n g =>
    cases hr : rowAt h.rows n with
    | none => show ∀ x ∈ (match rowAt h.rows n with | some p => lookE h p.1 p.2 g | none => []), stillE x; rw [hr]; intro x hx; exact nomatch hx
    | some p =>
      simp only [moveS, hr] at e
      show ∀ x ∈ (match rowAt h.rows n with | some p => lookE h p.1 p.2 g | none => []), stillE x
      rw [hr]
      show ∀ x ∈ lookE h p.1 p.2 g, stillE x
      unfold lookE
      by_cases c1 : g = p.2.well
      · rw [if_pos c1]; intro x hx; exact nomatch hx
      · rw [if_neg c1] at e ⊢
        by_cases c2 : (if p.2.well then h.fall else h.rise) = p.2.cnt + 1
        · rw [if_pos c2] at e ⊢
          by_cases c3 : p.2.well = true
          · rw [if_pos c3] at e; exact nomatch e
          · rw [if_neg c3]; intro x hx; rw [List.mem_singleton.mp hx]; exact ⟨rfl, rfl⟩
        · rw [if_neg c2]; intro x hx; exact nomatch hx
  | falls z =>
    have e : (if z ∈ h.rows.map RowS.zone then some ((fallenL h.rows z).map (En.word false), fallsH0 h z, atH h (fallenL h.rows z)) else none) = none := e
    show ∀ x ∈ (if z ∈ h.rows.map RowS.zone then (fallenL h.rows z).map (En.word false) ++ moveE (fallsH0 h z) (atH h (fallenL h.rows z)) else []), stillE x
    by_cases c : z ∈ h.rows.map RowS.zone
    · rw [if_pos c] at e; exact nomatch e
    · rw [if_neg c]; intro x hx; exact nomatch hx
  | ask a z =>
    show ∀ x ∈ (match lk h.stand a with | some _ => [] | none => if liveH h = [] then [] else [En.opn a (gS (ledH h a z))]), stillE x
    cases lk h.stand a with
    | some p => intro x hx; exact nomatch hx
    | none =>
      show ∀ x ∈ (if liveH h = [] then [] else [En.opn a (gS (ledH h a z))]), stillE x
      split
      · intro x hx; exact nomatch hx
      · intro x hx; rw [List.mem_singleton.mp hx]; exact ⟨rfl, rfl⟩
  | fin a =>
    show ∀ x ∈ (match lk h.stand a with | some (some n) => [En.fin a n] | _ => []), stillE x
    cases lk h.stand a with
    | none => intro x hx; exact nomatch hx
    | some v => cases v with
      | none => intro x hx; exact nomatch hx
      | some n => intro x hx; rw [List.mem_singleton.mp hx]; exact ⟨rfl, rfl⟩
  | evening => exact nomatch e
structure MoveOk (U : List Str) (h : HS) (k : Nat) (d : Deed) (pre : List En) (hm : HS) (xs : List Str) : Prop where
  ents : dueE h d = pre ++ moveE hm xs
  due : dueH h d = moveH hm xs
  inv : HInv U hm (k + 1)
  nd : xs.Nodup
  sub : ∀ x ∈ xs, x ∈ hm.stand.map Prod.fst
  extra : hm.extra = h.extra
  stand : hm.stand = h.stand
  still : ∀ x ∈ pre, stillE x
theorem moveS_ok (i : HInv U h k) (u : UOk U) {d : Deed} {pre : List En} {hm : HS} {xs : List Str} (e : moveS h d = some (pre, hm, xs)) : MoveOk U h k d pre hm xs := by
  have at_ok : ∀ {g : HS} (ns : List Str), HInv U g (k + 1) → g.stand = h.stand → (atH h ns).Nodup ∧ ∀ x ∈ atH h ns, x ∈ g.stand.map Prod.fst := fun {g} ns ig hs => by
    obtain ⟨n1, n2, _⟩ := at_in ig ns
    rw [atH_st (g := g) (h := h) ns hs] at n1 n2
    exact ⟨n1, n2⟩
  cases d with
  | put n z w => exact nomatch e
  | weigh n w => exact nomatch e
  | drain n => exact nomatch e
  | fill n => exact nomatch e
  | ask a z => exact nomatch e
  | fin a => exact nomatch e
  | out n =>
    cases hr : rowAt h.rows n with
    | none => simp only [moveS, hr] at e; exact nomatch e
    | some p =>
      simp only [moveS, hr] at e
      obtain ⟨j, r⟩ := p
      obtain ⟨h1, h2⟩ := rowAt_some hr
      cases e
      have i2 := out_inv i u h1
      obtain ⟨a1, a2⟩ := at_ok (g := outH0 h j r) [n] i2 rfl
      refine ⟨?_, ?_, i2, a1, a2, rfl, rfl, fun x hx => by rw [List.mem_singleton.mp hx]; exact ⟨rfl, rfl⟩⟩
      · show (match rowAt h.rows n with | some p => En.out n :: moveE (outH0 h p.1 p.2) (atH h [n]) | none => []) = _
        rw [hr]; rfl
      · show (match rowAt h.rows n with | some p => outH h p.1 p.2 | none => h) = _
        rw [hr]
        show allMoveH (outH0 h j r) [r.name] = _
        unfold allMoveH
        rw [atH_st (g := outH0 h j r) (h := h) [r.name] rfl, h2]
  | look n g =>
    cases hr : rowAt h.rows n with
    | none => simp only [moveS, hr] at e; exact nomatch e
    | some p =>
      obtain ⟨j, r⟩ := p
      obtain ⟨h1, h2⟩ := rowAt_some hr
      simp only [moveS, hr] at e
      by_cases c1 : g = r.well
      · rw [if_pos c1] at e; exact nomatch e
      · rw [if_neg c1] at e
        by_cases c2 : (if r.well then h.fall else h.rise) = r.cnt + 1
        · rw [if_pos c2] at e
          by_cases c3 : r.well = true
          · rw [if_pos c3] at e
            cases e
            have i2 := turn_inv i u h1
            obtain ⟨a1, a2⟩ := at_ok (g := turnH h j r) [r.name] i2 rfl
            refine ⟨?_, ?_, i2, a1, a2, rfl, rfl, fun x hx => by rw [List.mem_singleton.mp hx]; exact ⟨rfl, rfl⟩⟩
            · show (match rowAt h.rows n with | some p => lookE h p.1 p.2 g | none => []) = _
              rw [hr]
              show lookE h j r g = _
              unfold lookE
              rw [if_neg c1, if_pos c2, if_pos c3]
              show En.word (!r.well) r.name :: _ = En.word (!r.well) r.name :: _
              rw [moveE_st (g := turnH h j r) (h := { h with rows := h.rows.set j { r with well := !r.well, cnt := 0 } }) _ rfl rfl rfl]
              rfl
            · show (match rowAt h.rows n with | some p => lookH h p.1 p.2 g | none => h) = _
              rw [hr]
              show lookH h j r g = _
              rw [lookH_turn c1 c2, if_pos c3]
              unfold allMoveH
              rw [atH_st (g := turnH h j r) (h := h) [r.name] rfl]
          · rw [if_neg c3] at e; exact nomatch e
        · rw [if_neg c2] at e; exact nomatch e
  | falls z =>
    by_cases c : z ∈ h.rows.map RowS.zone
    · simp only [moveS, if_pos c] at e
      cases e
      have i2 := falls_inv i u z
      obtain ⟨a1, a2⟩ := at_ok (g := fallsH0 h z) (fallenL h.rows z) i2 rfl
      refine ⟨?_, ?_, i2, a1, a2, rfl, rfl, fun x hx => by obtain ⟨y, _, rfl⟩ := List.mem_map.mp hx; exact ⟨rfl, rfl⟩⟩
      · show (if z ∈ h.rows.map RowS.zone then _ else _) = _
        rw [if_pos c]
      · show (if z ∈ h.rows.map RowS.zone then fallsH h z else h) = _
        rw [if_pos c]
        unfold fallsH allMoveH
        rw [atH_st (g := fallsH0 h z) (h := h) _ rfl]
    · simp only [moveS, if_neg c] at e; exact nomatch e
  | evening =>
    cases e
    exact ⟨rfl, evening_eq h, i.mono (Nat.le_succ k), goers_nd' i, goers_in, rfl, rfl, fun x hx => nomatch hx⟩
theorem still_mv {pre : List En} (h : ∀ x ∈ pre, stillE x) : pre.filter isMv = [] := List.filter_eq_nil_iff.mpr fun x hx => by rw [(h x hx).1]; exact Bool.false_ne_true
def En.to : En → Str
  | .moved _ _ n => n
  | _ => ""
/-- what a deed moves, and whither -/
theorem due_deal (i : HInv U h k) (u : UOk U) (d : Deed) (hne : (dueE h d).filter isMv ≠ []) :
    ∃ now0 js, Deal (liveH (dueH h d)) h.extra now0 js ∧ js.length = ((dueE h d).filter isMv).length ∧ ((dueE h d).filter isMv).map En.to = namesJ (liveH (dueH h d)) js := by
  cases e : moveS h d with
  | none => exact absurd (still_mv (moveS_no e)) hne
  | some p =>
    obtain ⟨pre, hm, xs⟩ := p
    have m := moveS_ok i u e
    rw [m.ents, List.filter_append, still_mv m.still, List.nil_append] at hne ⊢
    have hl : liveH { hm with stand := unset hm.stand xs } ≠ [] := fun z => by
      apply hne
      unfold moveE
      rw [if_pos z]
      exact List.filter_eq_nil_iff.mpr fun x hx => by obtain ⟨y, _, rfl⟩ := List.mem_map.mp hx; exact Bool.false_ne_true
    obtain ⟨now0, js, hd, hj, hg⟩ := move_deal m.inv u m.nd m.sub hl
    have hgl : (goesA (liveH { hm with stand := unset hm.stand xs }) hm.extra xs.length).length = xs.length := (goes_ok (lsx_st m.inv u _) hl m.inv.extra.1 xs.length).1
    have em : moveE hm xs = ((xs.map fun x => (x, oldS hm x)).zip (goesA (liveH { hm with stand := unset hm.stand xs }) hm.extra xs.length)).map movedE := by
      unfold moveE
      rw [if_neg hl]
    have ef : (moveE hm xs).filter isMv = moveE hm xs := List.filter_eq_self.mpr fun x hx => by
      rw [em] at hx
      obtain ⟨y, _, rfl⟩ := List.mem_map.mp hx
      rfl
    have zl : ((xs.map fun x => (x, oldS hm x)).zip (goesA (liveH { hm with stand := unset hm.stand xs }) hm.extra xs.length)).length = xs.length := by rw [List.length_zip, List.length_map, hgl, Nat.min_self]
    rw [ef, m.due, ← m.extra]
    refine ⟨now0, js, hd, by rw [hj, em, List.length_map, zl], ?_⟩
    rw [← hg, em, List.map_map]
    have : En.to ∘ movedE = Prod.snd := rfl
    rw [this, List.map_snd_zip (by rw [List.length_map, hgl]; exact Nat.le_refl _)]
end
/-! ### the best place, by names -/
def bstep (f c : Str → Int) (b : Option (Str × Int)) (x : Str × Int) : Option (Str × Int) :=
  if f x.1 < c x.1 then
    match b with
    | none => some x
    | some y => if (f x.1 + 1) * y.2 < (f y.1 + 1) * x.2 then some x else some y
  else b
abbrev PX0 : Str × Int := ("", 0)
theorem getD_mapE {α β : Type} (g : α → β) (l : List α) {k : Nat} (hk : k < l.length) (a : α) (b : β) : (l.map g).getD k b = g (l.getD k a) := by
  rw [List.getD_eq_getElem?_getD, List.getElem?_map, List.getElem?_eq_getElem hk, List.getD_eq_getElem?_getD, List.getElem?_eq_getElem hk]
  rfl
theorem best_next {L : List (Str × Int)} {f c : Str → Int} : L.foldl (bstep f c) none = (nextD (L.map fun x => f x.1) (L.map fun x => x.2) (L.map fun x => c x.1)).map fun p => L.getD p PX0 := by
  have key : ∀ (l : List Nat) (b : Option Nat), (∀ k ∈ l, k < L.length) → (∀ k, b = some k → k < L.length) →
      (l.map fun k => L.getD k PX0).foldl (bstep f c) (b.map fun p => L.getD p PX0) = (l.foldl (stepD (L.map fun x => f x.1) (L.map fun x => x.2) (L.map fun x => c x.1)) b).map fun p => L.getD p PX0 := by
    intro l
    induction l with
    | nil => intro b _ _; rfl
    | cons k l ih =>
      intro b hl hb
      have hk := hl k (List.mem_cons_self ..)
      have a1 := getD_mapE (fun x : Str × Int => f x.1) L hk PX0 0
      have a2 := getD_mapE (fun x : Str × Int => x.2) L hk PX0 0
      have a3 := getD_mapE (fun x : Str × Int => c x.1) L hk PX0 0
      have step : bstep f c (b.map fun p => L.getD p PX0) (L.getD k PX0) = (stepD (L.map fun x => f x.1) (L.map fun x => x.2) (L.map fun x => c x.1) b k).map fun p => L.getD p PX0 := by
        unfold bstep stepD
        rw [a1, a3]
        by_cases c1 : f (L.getD k PX0).1 < c (L.getD k PX0).1
        · rw [if_pos c1, if_pos c1]
          cases b with
          | none => rfl
          | some b0 =>
            have hb0 := hb b0 rfl
            have b1 := getD_mapE (fun x : Str × Int => f x.1) L hb0 PX0 0
            have b2 := getD_mapE (fun x : Str × Int => x.2) L hb0 PX0 0
            show (if (f (L.getD k PX0).1 + 1) * (L.getD b0 PX0).2 < (f (L.getD b0 PX0).1 + 1) * (L.getD k PX0).2 then some (L.getD k PX0) else some (L.getD b0 PX0)) = (if (f (L.getD k PX0).1 + 1) * (L.map fun x => x.2).getD b0 0 < ((L.map fun x => f x.1).getD b0 0 + 1) * (L.map fun x => x.2).getD k 0 then some k else some b0).map fun p => L.getD p PX0
            rw [b1, b2, a2]
            split <;> rfl
        · rw [if_neg c1, if_neg c1]
      show (l.map fun k => L.getD k PX0).foldl (bstep f c) (bstep f c (b.map fun p => L.getD p PX0) (L.getD k PX0)) = _
      rw [step]
      refine ih _ (fun j hj => hl j (List.mem_cons_of_mem _ hj)) fun j hj => ?_
      unfold stepD at hj
      split at hj
      · cases b with
        | none => cases hj; exact hk
        | some b0 =>
          simp only at hj
          split at hj
          · cases hj; exact hk
          · cases hj; exact hb _ rfl
      · exact hb j hj
  have hr : L = (List.range L.length).map fun k => L.getD k PX0 := by
    apply List.ext_getElem?
    intro j
    rw [List.getElem?_map]
    by_cases hj : j < L.length
    · rw [List.getElem?_range hj, List.getElem?_eq_getElem hj, Option.map_some, List.getD_eq_getElem?_getD, List.getElem?_eq_getElem hj]; rfl
    · rw [List.getElem?_eq_none (by omega), List.getElem?_eq_none (by rw [List.length_range]; omega)]; rfl
  have := key (List.range L.length) none (fun k hk => List.mem_range.mp hk) (fun k hk => nomatch hk)
  rw [← hr] at this
  unfold nextD
  rw [List.length_map]
  exact this
/-- a dealing's next step -/
theorem deal_step {ws caps now : List Int} {m p : Nat} {js : List Nat} (h : dealD ws caps (m + 1) now = p :: js) : nextD now ws caps = some p ∧ dealD ws caps m (now.set p (now.getD p 0 + 1)) = js := by
  unfold dealD at h
  cases e : nextD now ws caps with
  | none => rw [e] at h; exact nomatch h
  | some p0 =>
    rw [e] at h
    injection h with h1 h2
    subst h1
    exact ⟨rfl, h2⟩
theorem map_upd {ns : List Str} (nd : ns.Nodup) {f : Str → Int} {p : Nat} (hp : p < ns.length) {v : Int} : (ns.map fun y => if y = ns[p] then v else f y) = (ns.map f).set p v := by
  apply List.ext_getElem?
  intro j
  rw [List.getElem?_map]
  by_cases hj : j < ns.length
  · by_cases c : p = j
    · subst c
      rw [List.getElem?_set_self (by rw [List.length_map]; exact hp), List.getElem?_eq_getElem hj, Option.map_some, if_pos rfl]
    · rw [List.getElem?_set_ne c, List.getElem?_map, List.getElem?_eq_getElem hj, Option.map_some, Option.map_some, if_neg fun z => c (by
        exact (List.getElem?_inj hp nd).mp (by rw [List.getElem?_eq_getElem hp, List.getElem?_eq_getElem hj, z]))]
  · rw [List.getElem?_eq_none (by omega), List.getElem?_eq_none (by rw [List.length_set, List.length_map]; omega)]; rfl
end SL

/-! heights of what was dealt; functions of names -/
namespace SL
open PySem PySem.Spec PyProof.Rows L2
section
variable {ι : Type} {X : ι → Cx} {K : PySem.W.Frag} {E : Ent} {R : List Res} {s1 s2 : Sl} {P : Program} {w : World} {mg : Str → Option Value} {base : Heap} {A : Around} {N : List Str}
theorem br_neDv {k : Nat} {b : Bool} (F : Fam X P w K mg base A N) (hr : Room k A) {d e : PyData} (h1 : DV K R s1 d) (h2 : DV K R s2 e) (hd : dep 64 d) (he : PyData.eqv d e = b) : BinR X K E (compareOp .NotEq) R s1 s2 (dB (!b)) := by
  have z := br_neP (X := X) (K := K) (E := E) (R := R) F hr h1 h2 (.inl hd)
  rwa [he] at z
end
theorem eqv_emp {ds : List PyData} : PyData.eqv (.list ds) (.list []) = decide (ds = []) := by
  cases ds with
  | nil => rfl
  | cons d ds => rfl
/-- a function of names that tells what the live have -/
theorem fn_names {L : List Sx} (nd : (L.map (·.1)).Nodup) (v : Sx → Int) : ∃ f : Str → Int, ∀ x ∈ L, f x.1 = v x := by
  induction L with
  | nil => exact ⟨fun _ => 0, fun x hx => nomatch hx⟩
  | cons y L ih =>
    obtain ⟨n1, n2⟩ := List.nodup_cons.mp nd
    obtain ⟨f, hf⟩ := ih n2
    refine ⟨fun n => if n = y.1 then v y else f n, fun x hx => ?_⟩
    rcases List.mem_cons.mp hx with z | z
    · subst z; exact if_pos rfl
    · show (if x.1 = y.1 then v y else f x.1) = v x
      rw [if_neg fun e => n1 (by show y.1 ∈ _; rw [← e]; exact List.mem_map.mpr ⟨x, z, rfl⟩), hf x z]
theorem dcF_map {L : List Sx} {f : Str → Int} {v : Sx → Int} (h : ∀ x ∈ L, f x.1 = v x) : L.map (fun x => ((x.1, dI (v x)) : Str × Sl)) = dcF (L.map (·.1)) f := by
  unfold dcF
  rw [List.map_map]
  exact List.map_congr_left fun x hx => by show (x.1, dI (v x)) = (x.1, dI (f x.1)); rw [h x hx]
/-- how many more a place gets while its load stays below a height -/
def belA (first cap top bottom w : Int) : Int := max 0 (min cap ((top * (SC / bottom) - 1) / (SC / w)) - first)
theorem sc_pos {w : Int} (h : 1 ≤ w ∧ w ≤ 20) : 0 < SC / w := by
  have : (SC / w) * w = SC := div_exact h.1 h.2
  rcases Int.lt_or_le 0 (SC / w) with z | z
  · exact z
  · have := Int.mul_le_mul_of_nonneg_right z (by omega : (0 : Int) ≤ w)
    have e : SC = 232792560 := rfl
    omega
theorem bel_le {w bottom top x : Int} (hw : 1 ≤ w ∧ w ≤ 20) (hb : 1 ≤ bottom ∧ bottom ≤ 20) : x * bottom < top * w ↔ x ≤ (top * (SC / bottom) - 1) / (SC / w) := by
  have h1 := scale_lt (a := x) (b := top) hw hb
  rw [← h1, Int.le_ediv_iff_mul_le (sc_pos hw)]
  show x * (SC / w) < top * (SC / bottom) ↔ _
  omega
theorem belA_more {first cap top bottom w c : Int} (hw : 1 ≤ w ∧ w ≤ 20) (hb : 1 ≤ bottom ∧ bottom ≤ 20) (h0 : 0 ≤ c) (hc : c ≤ belA first cap top bottom w) : (decide (first + c < cap) && decide ((first + c + 1) * bottom < top * w)) = decide (c < belA first cap top bottom w) := by
  have e := bel_le (x := first + c + 1) (top := top) hw hb
  obtain ⟨q, hq⟩ : ∃ q, q = (top * (SC / bottom) - 1) / (SC / w) := ⟨_, rfl⟩
  rw [← hq] at e
  unfold belA at hc ⊢
  rw [← hq] at hc ⊢
  by_cases c1 : first + c < cap
  · by_cases c2 : (first + c + 1) * bottom < top * w
    · have := e.mp c2
      rw [decide_eq_true c1, decide_eq_true c2, decide_eq_true (by omega)]; rfl
    · have : ¬ first + c + 1 ≤ q := fun z => c2 (e.mpr z)
      rw [decide_eq_false c2, Bool.and_false, decide_eq_false (by omega)]
  · rw [decide_eq_false c1, Bool.false_and, decide_eq_false (by omega)]
section
variable {L : List Sx} {extra : Int} {now0 : List Int} {js : List Nat}
abbrev gOf (js : List Nat) : Nat → Int := fun k => (js.count k : Nat)
abbrev wOf (L : List Sx) : Nat → Int := ato (wtsL' L)
abbrev hvJ (L : List Sx) (now0 : List Int) (js : List Nat) (n : Nat) : Int × Int := heavF (ato now0) (wOf L) (gOf js) n
theorem Deal.wts (d : Deal L extra now0 js) : ∀ k, k < L.length → 1 ≤ wOf L k ∧ wOf L k ≤ 20 := fun k hk => by
  have e : wOf L k = (L[k]).2.2.1 := by
    show (wtsL' L).getD k 0 = _
    unfold wtsL'
    rw [List.getD_eq_getElem?_getD, List.getElem?_map, List.getElem?_eq_getElem hk]
    rfl
  rw [e]
  have := d.ok.1 L[k] (List.getElem_mem hk)
  exact ⟨this.2.2.1, this.2.2.2.1⟩
theorem Deal.bot (d : Deal L extra now0 js) {n : Nat} (hn : n ≤ L.length) : 1 ≤ (hvJ L now0 js n).2 ∧ (hvJ L now0 js n).2 ≤ 20 :=
  (heavF_ok (h := ato now0) (w := wOf L) (g := gOf js) d.nn fun k hk => d.wts k (by omega)).2.1
/-- below the greatest height there is room for fewer than have moved -/
theorem Deal.below (d : Deal L extra now0 js) (hne : js ≠ []) :
    sumF (fun k => belA (now0.getD k 0) ((capsA (heldL' L).sum (wtsL' L) extra).getD k 0) (hvJ L now0 js L.length).1 (hvJ L now0 js L.length).2 (wOf L k)) L.length < js.length := by
  obtain ⟨e1, e2, e3⟩ := heavF_ok (h := ato now0) (w := wOf L) (g := gOf js) d.nn (n := L.length) d.wts
  have e1 : (hvJ L now0 js L.length).1 * (SC / (hvJ L now0 js L.length).2) = dueF (ato now0) (wOf L) (gOf js) L.length := e1
  unfold belA
  rw [e1]
  obtain ⟨p, rest, hj⟩ : ∃ p rest, js = p :: rest := List.exists_cons_of_ne_nil hne
  have hp : p < L.length := d.lt p (by rw [hj]; exact List.mem_cons_self ..)
  have hcp : 0 < gOf js p := by
    show (0 : Int) < ((js.count p : Nat) : Int)
    have : 0 < js.count p := List.count_pos_iff.mpr (by rw [hj]; exact List.mem_cons_self ..)
    omega
  have hpos : 0 < js.length := List.length_pos_iff.mpr hne
  rcases dueF_at (h := ato now0) (w := wOf L) (g := gOf js) L.length with z | ⟨k, hk, hg, z⟩
  · have h1 := dueF_ge (h := ato now0) (w := wOf L) (g := gOf js) hp hcp
    rw [z] at h1
    have h2 := sc_pos (d.wts p hp)
    have h3 : 0 < ato now0 p + gOf js p := by have := d.nn p; show 0 < now0.getD p 0 + _; omega
    have h4 := Int.mul_pos h3 h2
    omega
  · have hb := deal_below (ws := wtsL' L) (caps := capsA (heldL' L).sum (wtsL' L) extra) js.length now0 k (fun k hk => d.wts k (by rw [← d.len]; exact hk)) (by rw [← d.eq]; have : (0 : Int) < ((js.count k : Nat) : Int) := hg; omega)
    rw [← d.eq, d.len] at hb
    have e : (ato now0 k + ((js.count k : Nat) : Int)) * (SC / ato (wtsL' L) k) = dueF (ato now0) (wOf L) (gOf js) L.length := z.symm
    rw [e] at hb
    have hb : sumF (fun k => max 0 (min (ato (capsA (heldL' L).sum (wtsL' L) extra) k) ((dueF (ato now0) (wOf L) (gOf js) L.length - 1) / (SC / ato (wtsL' L) k)) - ato now0 k)) L.length ≤ (js.length : Int) - 1 := hb
    show sumF (fun k => max 0 (min (ato (capsA (heldL' L).sum (wtsL' L) extra) k) ((dueF (ato now0) (wOf L) (gOf js) L.length - 1) / (SC / ato (wtsL' L) k)) - ato now0 k)) L.length < _
    omega
end
end SL

/-! what the whole laws ask of deeds -/
namespace SL
open PySem PySem.Spec PyProof.Rows L2
theorem due_extra (h : HS) (d : Deed) : (dueH h d).extra = h.extra := by
  cases d with
  | put n z w => show (match rowAt h.rows n with | some _ => h | none => putH h n z w).extra = _; cases rowAt h.rows n <;> rfl
  | weigh n w => show (match rowAt h.rows n with | some p => weighH h p.1 p.2 w | none => h).extra = _; cases rowAt h.rows n <;> rfl
  | drain n =>
    show (match rowAt h.rows n with | some p => drainH h p.1 p.2 | none => h).extra = _
    cases rowAt h.rows n with
    | none => rfl
    | some p => show (drainH h p.1 p.2).extra = _; unfold drainH; split <;> rfl
  | fill n =>
    show (match rowAt h.rows n with | some p => fillH h p.1 p.2 | none => h).extra = _
    cases rowAt h.rows n with
    | none => rfl
    | some p => show (fillH h p.1 p.2).extra = _; unfold fillH; split <;> rfl
  | out n =>
    show (match rowAt h.rows n with | some p => outH h p.1 p.2 | none => h).extra = _
    cases rowAt h.rows n with
    | none => rfl
    | some p => exact (allMove_same _ _).1.2.2
  | look n g =>
    show (match rowAt h.rows n with | some p => lookH h p.1 p.2 g | none => h).extra = _
    cases rowAt h.rows n with
    | none => rfl
    | some p =>
      show (lookH h p.1 p.2 g).extra = _
      by_cases c1 : g = p.2.well
      · rw [lookH_same c1]
      · by_cases c2 : (if p.2.well then h.fall else h.rise) = p.2.cnt + 1
        · rw [lookH_turn c1 c2]
          split
          · exact (allMove_same _ _).1.2.2
          · rfl
        · rw [lookH_less c1 c2]
  | falls z =>
    show (if z ∈ h.rows.map RowS.zone then fallsH h z else h).extra = _
    split
    · exact (allMove_same _ _).1.2.2
    · rfl
  | ask a z =>
    show (match lk h.stand a with | some _ => h | none => if liveH h = [] then h else askH h a z).extra = _
    cases lk h.stand a with
    | some v => rfl
    | none => show (if liveH h = [] then h else askH h a z).extra = _; split <;> rfl
  | fin a =>
    show (match lk h.stand a with | some (some n) => endH h a n | _ => h).extra = _
    cases lk h.stand a with
    | none => rfl
    | some v => cases v <;> rfl
  | evening => exact (evening_same h).1.2.2
theorem new_inv (U : List Str) {size rise fall extra : Int} (hs : 0 < size) (he : 0 ≤ extra ∧ extra ≤ 1000) : HInv U (newH size rise fall extra) 0 :=
  ⟨fun r hr => (nomatch hr), fun x hx => (nomatch hx), fun x hx => (nomatch hx), Nat.zero_le _, fun e he => (nomatch he), hs, he, List.nodup_nil, List.nodup_nil, List.nodup_nil⟩
theorem en_isMv (e : En) : decide (e.w = "moved") = isMv e := by
  cases e with
  | put n z w => show decide (("put" : Str) = "moved") = false; decide +kernel
  | weigh n w => show decide (("weigh" : Str) = "moved") = false; decide +kernel
  | drain n => show decide (("drain" : Str) = "moved") = false; decide +kernel
  | fill n => show decide (("fill" : Str) = "moved") = false; decide +kernel
  | out n => show decide (("out" : Str) = "moved") = false; decide +kernel
  | word b n =>
    cases b with
    | true => show decide (("well" : Str) = "moved") = false; decide +kernel
    | false => show decide (("ill" : Str) = "moved") = false; decide +kernel
  | opn a n => show decide (("open" : Str) = "moved") = false; decide +kernel
  | fin a n => show decide (("end" : Str) = "moved") = false; decide +kernel
  | moved a o n => show decide (("moved" : Str) = "moved") = true; decide +kernel
  | lost a o => show decide (("lost" : Str) = "moved") = false; decide +kernel
theorem en_isLost (e : En) : decide (e.w = "lost") = isLost e := by
  cases e with
  | put n z w => show decide (("put" : Str) = "lost") = false; decide +kernel
  | weigh n w => show decide (("weigh" : Str) = "lost") = false; decide +kernel
  | drain n => show decide (("drain" : Str) = "lost") = false; decide +kernel
  | fill n => show decide (("fill" : Str) = "lost") = false; decide +kernel
  | out n => show decide (("out" : Str) = "lost") = false; decide +kernel
  | word b n =>
    cases b with
    | true => show decide (("well" : Str) = "lost") = false; decide +kernel
    | false => show decide (("ill" : Str) = "lost") = false; decide +kernel
  | opn a n => show decide (("open" : Str) = "lost") = false; decide +kernel
  | fin a n => show decide (("end" : Str) = "lost") = false; decide +kernel
  | moved a o n => show decide (("moved" : Str) = "lost") = false; decide +kernel
  | lost a o => show decide (("lost" : Str) = "lost") = true; decide +kernel
theorem en_at0 (e : En) : atI e.d 0 = some (.str e.w) := by rw [e.d_eq]; exact atI0
end SL

/-! exceptions that are kept: caught and held behind the handler, made and held; isinstance of them -/
namespace SL
open PySem PySem.Spec PyProof.Rows L2
/-- an exception object of the class cls, caught, at a -/
def ExV (cls : Value) (a : Addr) : HO := .ext fun h => ∃ (oe : Obj) (vs : Array Value), h.get? a = some oe ∧ Zc cls none oe ∧ oe.data = .fields vs
theorem exV_ok {P : Program} {w : World} {H : Hp} {h : Heap} {a : Addr} {cls : Value} {oe : Obj} {vs : Array Value} (e : h.get? a = some oe) (z : Zc cls none oe) (d : oe.data = .fields vs) : ObjOk P w H h a (ExV cls a) :=
  ⟨⟨oe, vs, e, z, d⟩, ⟨oe, e⟩, fun _ _ ⟨o, v, q, r⟩ k => ⟨o, v, k o q, r⟩⟩
section
variable {X : Cx} {pins : List (Addr × Obj)} {σ : L2.St} {H : Hp} {s : Shared}
/-- an object new since the entry and so far only pinned is tracked -/
theorem inv_track (I : Inv X pins σ H s) {a : Addr} {cls : Value} {oe : Obj} {vs : Array Value} (e : s.heap.get? a = some oe) (d : oe.data = .fields vs) (z : Zc cls none oe) (n : H a = none) (n0 : X.s_0.heap.get? a = none) (nL : a ≠ X.env.locals) (np : ∀ p ∈ X.pn ++ pins, p.1 ≠ a) :
    Inv X pins σ (upd H a (ExV cls a)) s := by
  have nC : ∀ x c, X.env.cells.lookup x = some c → c ≠ a := fun x c ec q => by
    obtain ⟨v, o, ho, hd⟩ := I.cell x c ec
    rw [q, e] at ho
    cases ho
    rw [d] at hd
    cases hd
  refine ⟨I.ok, I.os, I.bare, ⟨I.base.keep, I.base.slot, fun b o eb nb hb => ?_, I.base.there, fun b xs eb => ?_, fun b o u eb => ?_, fun b ps eb => ?_⟩, I.loc, I.cell, by rw [upd_ne (Ne.symm nL)]; exact I.free, fun x c ec => by rw [upd_ne (nC x c ec)]; exact I.freeC x c ec, fun p hp => ?_, I.hok.laidN (fun _ _ q => q) n (exV_ok e z d), I.len⟩
  · rw [upd_ne (fun q => by rw [q, n0] at eb; cases eb)]; exact I.base.free b o eb nb hb
  · have q := I.base.tups b xs eb; rw [upd_ne (ne_of_none q n)]; exact q
  · have q := I.base.frzs b o u eb; rw [upd_ne (ne_of_none q n)]; exact q
  · obtain ⟨m, q⟩ := I.base.tbls b ps eb; exact ⟨m, by rw [upd_ne (ne_of_none q n)]; exact q⟩
  · obtain ⟨q1, q2, q3⟩ := I.pin p hp
    exact ⟨q1, by rw [upd_ne (np p hp)]; exact q2, q3⟩
end
/-- what a clause's test does at an exception of such a class: it takes it -/
def TestK (X : Cx) (t : Expr) (M : Value → Prop) : Prop := ∀ (a : Addr) (oe : Obj) (cls : Value) (pnx pins : List (Addr × Obj)) (σ : L2.St) (H : Hp) (s3 : Shared) (Q : Bool → Shared → Prop) (E : Value → Shared → Prop),
  Inv (X.suite a ((a, oe) :: pnx)) pins σ H s3 → s3.heap.get? a = some oe → oe.cls = cls → M cls →
    (∀ h', (∀ b o, s3.heap.get? b = some o → h'.get? b = some o) → Q true { s3 with heap := h' }) →
      wpAny (model X.prog X.w) (X.A.mark (some (.ref a))) (eval t X.env) (fun c s₁ => wpAny (model X.prog X.w) (X.A.mark (some (.ref a))) (excMatches (.ref a) c) Q E s₁) E s3
section
variable {X : Cx} {x x1 x2 : Str} {c c1 c2 : Value} {np p1 p2 tp : Pos} {kk : Nat}
theorem testK_name (hc : Names X x c) : TestK X (.Name x np) (fun cls => PySem.W.exmOne X.K cls c = some true) := fun a oe cls pnx pins σ H s3 Q E I he hcl hM q => by
  have LT : PySem.W.Looks (model X.prog X.w) s3.heap (typeOf (.ref a)) cls := fun A Q E s k q => wpAny_typeOf_ref (k _ _ he) (by rw [hcl]; exact q)
  have LM := PySem.W.exm_one (M := model X.prog X.w) I.kIn LT hM
  have fin : wpAny (model X.prog X.w) (X.A.mark (some (.ref a))) (excMatches (.ref a) c) Q E s3 := LM.here (q s3.heap fun _ _ z => z)
  obtain ⟨hg, hdbg, hm | ⟨hm, hv, hnn⟩⟩ := hc
  · exact ld_glob (X := X.suite a ((a, oe) :: pnx)) I hg hm fin hdbg
  · exact ld_blt (X := X.suite a ((a, oe) :: pnx)) I hg hm hv fin hnn hdbg
theorem testK_tup2 (hc1 : Names X x1 c1) (hc2 : Names X x2 c2) : TestK X (.Tuple [.Name x1 p1, .Name x2 p2] kk tp) (fun cls => PySem.W.exmAny X.K cls [c1, c2] = some true) := fun a oe cls pnx pins σ H s3 Q E I he hcl hM q => by
  have test : ∀ {x : Str} {c : Value} {np : Pos} {Q : Value → Shared → Prop} {E : Value → Shared → Prop}, Names X x c → Q c s3 → wpAny (model X.prog X.w) (X.A.mark (some (.ref a))) (eval (.Name x np) X.env) Q E s3 := fun {x c np Q E} hc q => by
    obtain ⟨hg, hdbg, hm | ⟨hm, hv, hnn⟩⟩ := hc
    · exact ld_glob (X := X.suite a ((a, oe) :: pnx)) I hg hm q hdbg
    · exact ld_blt (X := X.suite a ((a, oe) :: pnx)) I hg hm hv q hnn hdbg
  refine wpAny_Tuple ?_
  refine wpAny_items_cons (test hc1 ?_)
  refine wpAny_items_cons (test hc2 ?_)
  refine wpAny_items_nil ⟨by size_fits, ?_⟩
  have kp : ∀ q o, s3.heap.get? q = some o → (s3.heap.push { cls := .type "tuple", data := .seq [c1, c2].toArray }).get? q = some o := fun _ _ z => Heap.get?_push_of_some _ z
  have LT : PySem.W.Looks (model X.prog X.w) (s3.heap.push { cls := .type "tuple", data := .seq [c1, c2].toArray }) (typeOf (.ref a)) cls := fun A Q E s k q => wpAny_typeOf_ref (k _ _ (kp _ _ he)) (by rw [hcl]; exact q)
  exact (PySem.W.exm_tup2 (M := model X.prog X.w) (I.kIn.keeps kp) LT (Heap.get?_push_size s3.heap rfl) hM).here (q _ kp)
end
/-- what a clause with a name wishes of an exception that it takes; the exception stays known behind the suite -/
def wKeep (M : Value → Prop) (i : Nat) (ts : Addr → Value → Option Addr → TS) (D : Ends) : WX := fun cls d σ H => (M cls ∧ d = none) ∧ ∀ a, H a = none → ts a cls d
  { nx := fun σ' H' => H' a = none → D.nx (σ'.set i none) (upd H' a (ExV cls a)), rt := fun _ _ => False, bk := fun _ _ => False, ct := fun _ _ => False } (σ.set i (some (.ref a))) H
section
variable {X : Cx} {n : Str} {t : Expr} {M : Value → Prop} {i : Nat} {body suite : List Stmt} {b₀ : Stmt} {pos pos' : Pos} {tb : WX → TS} {ts : Addr → Value → Option Addr → TS}
theorem ps_try_keep (hs : X.stack = X.env :: X.outer) (hf : X.env.frame = some X.env.locals) (hN : X.N.Nodup) (hi : X.N[i]? = some n) (hln : X.env.kindOf n = some .local) (hx : X.ex = []) (ht : TestK X t M)
    (hb : ∀ (W : WX) (pn : List (Addr × Obj)) (xe : Value → Shared → Prop), Takes (X.tr pn xe) W → PassesOwn (model X.prog X.w) X.A X.env xe → PSs (X.tr pn xe) body (tb W))
    (hsu : ∀ (a : Addr) (oe : Obj) (cls : Value) (d : Option Addr) (pn : List (Addr × Obj)), Zc cls d oe → (∃ vs, oe.data = .fields vs) → PSs (X.suite a ((a, oe) :: pn)) (b₀ :: suite) (ts a cls d)) :
    PS X (.Try body [.ExceptHandler (some t) (some n) (b₀ :: suite) pos'] [] [] pos) (fun D σ H => tb (wKeep M i ts D) D σ H) := by
  refine ⟨fun pins s σ H D I h => ?_⟩
  have ok := I.ok
  have hfr : X.A.frames = some (X.env :: X.outer) := by rw [ok.frames, hs]
  have hloc : Loc X.env.scope n := .inl hln
  refine wpAny_Try_except ?_
  refine wpAny_mono ((hb (wKeep M i ts D) (X.pn ++ pins) (fun e s₁ => wpAny (model X.prog X.w) X.A (noteFrame e X.env) (fun _ s₂ => wpAny (model X.prog X.w) X.A (setFlight e none) (fun _ s₃ =>
    wpAny (model X.prog X.w) X.A (handleBy e X.env [.ExceptHandler (some t) (some n) (b₀ :: suite) pos']) (SP X pins D) X.xe s₃) X.xe s₂) X.xe s₁) (fun u s' xx => ?_) PassesOwn.looking).run [] s σ H D (I.toTry _) h) (fun f s1 hsp => ?_) (fun e s1 he => he)
  · obtain ⟨a, B, sI, pins', σ', H', cls, d, rfl, J', nb, up, sky, na, os, ag, ⟨hM, hd0⟩, hyes⟩ := xx
    subst hd0
    have J : Inv X pins σ' H' sI := J'.ofTry ok
    have sky' : Sky B (X.env :: X.outer) a (Zc cls none) X.env.locals s'.heap := by rw [← hs]; exact sky
    show wpAny (model X.prog X.w) X.A (noteFrame (.ref a) X.env) _ _ _
    refine Sky.land Zc.steady hfr hf sky' fun h3 fl3 up3 => ?_
    have J3 : Inv X pins σ' H' { s' with heap := h3 } := J.landed nb fl3.1 (up.trans up3) os ag
    obtain ⟨oe3, vs3, he3, hz3, hd3⟩ := fl3.there
    have notFr : ∀ {h : Heap} {o : Obj} {vs : Array Value}, h.FunFrames B (X.env :: X.outer) → h.get? a = some o → o.data = .fields vs → a ∉ frs (X.env :: X.outer) := fun {h o vs} ff e dd hm => by
      obtain ⟨_, o', e', hnf⟩ := ff.mem hm
      rw [e] at e'; cases e'
      exact hnf _ dd
    have nfr := notFr fl3.2.2.1 he3 hd3
    have nL : a ≠ X.env.locals := fun z => nfr (List.mem_filterMap.mpr ⟨X.env, List.mem_cons_self, by rw [hf, z]⟩)
    have nF : a ∉ X.fs := fun hm => by
      obtain ⟨e, he, q⟩ := List.mem_filterMap.mp hm
      exact nfr (List.mem_filterMap.mpr ⟨e, List.mem_cons_of_mem _ he, q⟩)
    have nI : sI.heap.get? a = none := by
      cases e : sI.heap.get? a with
      | none => rfl
      | some o =>
        have := nb a o e (by rw [hs]; exact nfr)
        rw [fl3.2.1] at this
        cases this
    have n0 : X.s_0.heap.get? a = none := by
      cases e : X.s_0.heap.get? a with
      | none => rfl
      | some o =>
        obtain ⟨o', q⟩ := J.base.there a o e (by rw [hx]; exact fun z => nomatch z)
        rw [nI] at q
        cases q
    have np : ∀ p ∈ X.pn ++ pins, p.1 ≠ a := fun p hp z => by
      have q := (J.pin p hp).1
      rw [z, nI] at q
      cases q
    have S3 := J3.suite he3 hd3 na nL nF
    refine wpAny_handleBy_cons (codeAny_handlers_test ?_) (by intro q; cases q)
    refine ht a oe3 cls _ _ _ _ _ _ _ S3 he3 hz3.1 hM fun hp kp => ?_
    have flp := flyZ_keeps fl3 kp
    have upp : s'.heap.UpToSlots hp := up3.trans (Heap.UpToSlots.of_keeps kp)
    refine codeAny_handlers_suite_as ?_
    refine HandSPX.lands_againZ flp fun h4 fl4 up4 => ?_
    have J4 : Inv X pins σ' H' { s' with heap := h4 } := J.landed nb fl4.1 ((up.trans upp).trans up4) os ag
    obtain ⟨oe4, vs4, he4, hz4, hd4⟩ := fl4.there
    have S4 := J4.suite he4 hd4 na nL nF
    refine store_ok (X := X.suite a ((a, oe4) :: (X.pn ++ pins))) (v := .ref a) S4 hN hi hloc rfl (fun s5 S5 => ?_) (.inr hln)
    refine wpAny_mono ((hsu a oe4 cls none (X.pn ++ pins) hz4 ⟨_, hd4⟩).run [] s5 _ H' _ S5 (hyes a na)) (fun f s6 hsp => ?_) (fun _ _ z => False.elim z)
    cases f with
    | next =>
      obtain ⟨σ6, H6, S6, q6⟩ := hsp
      obtain ⟨g1, g2, g3, g4, _⟩ := S6.pin (a, oe4) (List.mem_append.mpr (.inl List.mem_cons_self))
      have J6 := inv_track (S6.unsuite ok) g1 hd4 hz4 g2 n0 nL np
      exact L2.gone_ok J6 hN hi hln fun s7 J7 => ⟨_, _, J7, q6 g2⟩
    | brk =>
      obtain ⟨σ6, H6, S6, q6⟩ := hsp
      exact q6.elim
    | cont =>
      obtain ⟨σ6, H6, S6, q6⟩ := hsp
      exact q6.elim
    | ret u =>
      obtain ⟨v6, σ6, H6, S6, r6, q6⟩ := hsp
      exact q6.elim
  · cases f with
    | next =>
      obtain ⟨σ', H', J', q⟩ := hsp
      exact wpAny_execs_nil ⟨σ', H', J'.ofTry ok, q⟩
    | brk =>
      obtain ⟨σ', H', J', q⟩ := hsp
      exact ⟨σ', H', J'.ofTry ok, q⟩
    | cont =>
      obtain ⟨σ', H', J', q⟩ := hsp
      exact ⟨σ', H', J'.ofTry ok, q⟩
    | ret u =>
      obtain ⟨v, σ', H', J', r, q⟩ := hsp
      exact ⟨v, σ', H', J'.ofTry ok, r, q⟩
end
/-- isinstance(e, c), e an exception that is kept -/
def rIsV (K : PySem.W.Frag) (D a : Addr) : List V → Hp → VK → Prop := fun xs H Q => ∃ (c : V) (cv : Value) (b : Bool) (φ : Heap → Prop), xs = [.ref a, c] ∧ (∀ u, RelV c u → u = cv) ∧ PySem.W.kitOne K (.ref D) cv = some b ∧ H a = some (.ext φ) ∧ (∀ h, φ h → ∃ (oe : Obj) (vs : Array Value), h.get? a = some oe ∧ Zc (.ref D) none oe ∧ oe.data = .fields vs) ∧ Q (.bl b) H
theorem call_isV {X : Cx} {a D : Addr} (C : ExcC X.K D) : CallR X (.builtin "isinstance") (rIsV X.K D a) := by
  intro pins s σ H xs us Q I r h
  obtain ⟨c, cv, b, φ, rfl, hcv, e, hφ, hk, q⟩ := h
  cases r with
  | cons rx rr =>
    cases rr with
    | cons rt rr =>
      cases rr
      cases rx
      have ec := hcv _ rt
      subst ec
      obtain ⟨hp, _, _⟩ := I.hok a _ hφ
      obtain ⟨oe, vs, hget, hz, hv⟩ := hk _ hp
      have J : PySem.W.InstAt s.heap a oe D none := by
        obtain ⟨oc, od, oda, osl⟩ := oe
        obtain ⟨h1, h2⟩ := hz
        dsimp only at h1 h2 hv
        subst h1 h2 hv
        exact ⟨hget, rfl, rfl, trivial⟩
      exact PySem.W.kia_one (PySem.W.handS_kitx_exc C.hg C.hk C.hs C.hd C.ha C.hn C.ht C.hm) I.kIn J e (fun z => nomatch z) fun tk => ⟨.bl b, H, I.kept (t' := tk) fun _ _ z => z, rfl, q⟩
/-- an exception of one's own, kept at a -/
def rX (a C : Addr) : Res := ⟨fun K S O => ∃ φ : Heap → Prop, O = hOne a (.ext φ) ∧ ∀ h, φ h → ∃ (oe : Obj) (vs : Array Value), h.get? a = some oe ∧ Zc (.ref C) none oe ∧ oe.data = .fields vs, fun _ h => h⟩
section
variable {ι : Type} {X : ι → Cx} {K : PySem.W.Frag} {E : Ent} {B : Hp} {Γ Γ' : Slots} {R R' R1 R2' R3 : List Res} {a b c e : Expr} {es : List Expr} {pos p' p : Pos} {s s1 s2 s3 : Sl}
  {P : Program} {w : World} {mg : Str → Option Value} {base : Heap} {A : Around} {N ps : List Str} {rest sts : List Stmt} {D : Ends} {S S' H H' : Hp} {σ σ' : L2.St} {f : Str} {C ad : Addr} {W : WX} {k : Bool}
theorem ev_isV (F : Fam X P w K mg base A N) (T : ExcC K C) (m : Nat) (hR : R[m]? = some (rX ad C)) (hm : mg "isinstance" = none) {v : V} {u : Value} (he : EvJ X K E Γ R e R (sv (.ref ad))) (hc : EvJ X K E Γ R c R (sv v)) (hv : ClsV v u) (hk : PySem.W.kitOne K (.ref C) u = some k)
    (hg : ∀ i, Gl (X i) "isinstance" := by exact fun _ => rfl) (hs1 : ∀ i, starEach [e, c] (X i).env = (false, eval e (X i).env) :: starEach [c] (X i).env := by exact fun _ => rfl)
    (hs2 : ∀ i, starEach [c] (X i).env = (false, eval c (X i).env) :: starEach [] (X i).env := by exact fun _ => rfl) (hpl : ∀ i, (backTo pos (starEach [c] (X i).env)).any (·.1) = false := by exact fun _ => rfl) :
    EvJ X K E Γ R (.Call (.Name "isinstance" p') [e, c] [] pos) R (dB k) := by
  refine ev_callB F hm PyProof.Rows.boot_isinstance (ar_cons he (ar_cons hc ar_nil hs2) hs1) ⟨rIsV K C ad, fun n => ?_, fun Γ S σ H vs Q q r k' => ?_⟩ hg hs1 hpl
  · have := call_isV (X := X n) (a := ad) (D := C) (by rw [F.fK n]; exact T)
    rw [F.fK n] at this
    exact this
  · obtain ⟨x, y, rfl, r1, r2⟩ := all2_two r
    cases (show x = .ref ad from r1)
    cases (show y = v from r2)
    obtain ⟨O, ⟨φ, eO, hφ⟩, hH⟩ := q.res m hR
    subst eO
    exact ⟨v, u, k, φ, rfl, fun u' hu => hv.eq hu, hk, hH ad _ hOne_same, hφ, k' _ S H (Same.refl _) q rfl⟩
/-- C(text): a new exception, as a value -/
theorem ev_exc {x : Str} (F : Fam X P w K mg base A N) (T : XcT K mg x C) (he : EvJ X K E Γ R e R1 s) (hg : ∀ i, Gl (X i) x := by exact fun _ => rfl) (hs : ∀ i, starEach [e] (X i).env = (false, eval e (X i).env) :: starEach [] (X i).env := by exact fun _ => rfl) (hdb : (x == ("__debug__" : Str)) = false := by decide) :
    EvN X K E Γ R (.Call (.Name x p) [e] [] pos) (fun a : Addr => R1 ++ [rX a C]) (fun a => sv (.ref a)) := by
  obtain ⟨t, h1, h2⟩ := he
  refine ⟨_, fun i => pe_exc1 PySem.F.excBase_ValueError (by rw [F.fK i]; exact T.ex) (by rw [F.fmg i]; exact T.g) (by rw [F.fK i]; exact T.kp) (hg i) (h1 i) (hs i) hdb, fun S σ H Q q k => h2 S σ H _ q fun v S1 H1 e1 q1 r1 a ha => ?_⟩
  exact k a _ S1 _ e1 (q1.mine ha ⟨_, rfl, fun h ⟨oe, vs, g1, g2, g3, _⟩ => ⟨oe, vs, g1, g2, g3⟩⟩) rfl
/-- try: .. except t as n: .., the body raises C; the exception stays known -/
theorem blk_tryKeep (ΓK : Addr → Slots) (RK : Addr → List Res) (F : Fam X P w K mg base A N) (k : Nat) {n : Str} {t : Expr} {M : Value → Prop} {body suite : List Stmt} {b₀ : Stmt} {pos' : Pos} (hb : BodyR X K E Γ R body C R1) (ht : ∀ i, TestK (X i) t M) (hM : M (.ref C))
    (hsu : ∀ a, Fam (XO X C a) P w K mg base (A.mark (some (.ref a))) N → Blk (XO X C a) K E B (Γ.set k (some (sv (.ref a)))) R1 (b₀ :: suite) { nx := fun σ' H' => H' a = none → ∃ b, Pst K E B (ΓK b) (RK b ++ [rX b C]) (σ'.set k none) (upd H' a (ExV (.ref C) a)), rt := fun _ _ => False, bk := fun _ _ => False, ct := fun _ _ => False })
    (hr : ∀ a, Blk X K E B (ΓK a) (RK a ++ [rX a C]) rest D) (hi : N[k]? = some n := by rfl) (hln : ∀ i, (X i).env.kindOf n = some .local := by exact fun _ => rfl)
    (hst : ∀ i, (X i).stack = (X i).env :: (X i).outer := by exact fun _ => rfl) (hf : ∀ i, (X i).env.frame = some (X i).env.locals := by exact fun _ => rfl) (hex : ∀ i, (X i).ex = [] := by exact fun _ => rfl) :
    Blk X K E B Γ R (.Try body [.ExceptHandler (some t) (some n) (b₀ :: suite) pos'] [] [] pos :: rest) D := by
  have hb' := fun W => Classical.choose_spec (hb W)
  have hs' := fun a => Classical.choose_spec (hsu a (fam_suiteO F a))
  have hr' := fun a => Classical.choose_spec (hr a)
  let ts : Addr → Value → Option Addr → TS := fun a cls d D σ H => (cls = .ref C ∧ d = none) ∧ Classical.choose (hsu a (fam_suiteO F a)) D σ H
  have hts : ∀ i (a : Addr) (oe : Obj) (cls : Value) (d : Option Addr) (pn : List (Addr × Obj)), Zc cls d oe → (∃ vs, oe.data = .fields vs) → PSs ((X i).suite a ((a, oe) :: pn)) (b₀ :: suite) (ts a cls d) := fun i a oe cls d pn hz hfl =>
    ⟨fun pins s σ H D I ⟨⟨e1, e2⟩, q⟩ => by
      subst e1 e2
      exact ((hs' a).1 ⟨(i, oe, pn), hz, hfl⟩).run pins s σ H D I q⟩
  have hps : ∀ i, PS (X i) (.Try body [.ExceptHandler (some t) (some n) (b₀ :: suite) pos'] [] [] pos) (fun D σ H => Classical.choose (hb (wKeep M k ts D)) D σ H) := fun i =>
    ps_try_keep (i := k) (pos := pos) (pos' := pos') (tb := fun W => Classical.choose (hb W)) (hst i) (hf i) (by rw [F.fN i]; exact F.nd) (by rw [F.fN i]; exact hi) (hln i) (hex i) (ht i) (fun W pn xe tk ps => (hb' W).1 ⟨(i, pn, xe), takesN tk, ps⟩) (hts i)
  refine ⟨Evl.tCut _ _, fun i => Evl.pss_cut (hps i) (pss_any fun a => (hr' a).1 i), fun S σ H b q => ⟨fun σ' H' => ∃ a, Pst K E B (ΓK a) (RK a ++ [rX a C]) σ' H', ?_, fun σ' H' ⟨a, S2, e2, q2⟩ => ⟨a, (hr' a).2 S2 σ' H' e2 q2⟩⟩⟩
  refine (hb' _).2 S σ H _ q fun S' H' e' q' => ⟨⟨hM, rfl⟩, fun a ha => ⟨⟨rfl, rfl⟩, ?_⟩⟩
  exact (hs' a).2 S' _ H' (b.trans e') (q'.setSlot k rfl)
theorem blk_endKeep (k : Nat) {a : Addr} {ΓK : Addr → Slots} {RK : Addr → List Res} (hR : R = RK a) (h : All2 WkS (ΓK a) (Γ.set k none)) (hD : D.nx = fun σ' H' => H' a = none → ∃ b, Pst K E B (ΓK b) (RK b ++ [rX b C]) (σ'.set k none) (upd H' a (ExV (.ref C) a))) : Blk X K E B Γ R [] D :=
  blk_nil fun S σ H b q => by
    rw [hD]
    intro ha
    subst hR
    exact ⟨a, S, b, (wkG h S _ H (q.setNone k)).mine ha ⟨_, rfl, fun h z => z⟩⟩
end
end SL

namespace SL
open PySem PySem.Spec PyProof.Rows L2
def top (i : Nat) : Stmt := PySem.Challenge.pw_usher_k11_refusals_apart.main.body.getD i (.Pass ⟨0, 0, 0, 0⟩)
structure Bt (mg : Str → Option Value) : Prop where
  ValueError : mg "ValueError" = none
  isinstance : mg "isinstance" = none
  len : mg "len" = none
  list : mg "list" = none
  max : mg "max" = none
  range : mg "range" = none
  sum : mg "sum" = none
  zip : mg "zip" = none
structure ExT (K : PySem.W.Frag) (mg : Str → Option Value) (c_NoLine c_NoRoom c_NoServer c_Twice c_Unknown c_UsherError : Addr) : Prop where
  e_NoLine : ExcC K c_NoLine
  e_NoRoom : ExcC K c_NoRoom
  e_NoServer : ExcC K c_NoServer
  e_Twice : ExcC K c_Twice
  e_Unknown : ExcC K c_Unknown
  k_NoLine_NoLine : PySem.W.kitOne K (.ref c_NoLine) (.ref c_NoLine) = some true
  k_NoLine_NoRoom : PySem.W.kitOne K (.ref c_NoLine) (.ref c_NoRoom) = some false
  k_NoLine_NoServer : PySem.W.kitOne K (.ref c_NoLine) (.ref c_NoServer) = some false
  k_NoLine_Twice : PySem.W.kitOne K (.ref c_NoLine) (.ref c_Twice) = some false
  k_NoLine_Unknown : PySem.W.kitOne K (.ref c_NoLine) (.ref c_Unknown) = some false
  k_NoLine_UsherError : PySem.W.kitOne K (.ref c_NoLine) (.ref c_UsherError) = some true
  k_NoLine_ValueError : PySem.W.kitOne K (.ref c_NoLine) (.type "ValueError") = some true
  k_NoRoom_NoLine : PySem.W.kitOne K (.ref c_NoRoom) (.ref c_NoLine) = some false
  k_NoRoom_NoRoom : PySem.W.kitOne K (.ref c_NoRoom) (.ref c_NoRoom) = some true
  k_NoRoom_NoServer : PySem.W.kitOne K (.ref c_NoRoom) (.ref c_NoServer) = some false
  k_NoRoom_Twice : PySem.W.kitOne K (.ref c_NoRoom) (.ref c_Twice) = some false
  k_NoRoom_Unknown : PySem.W.kitOne K (.ref c_NoRoom) (.ref c_Unknown) = some false
  k_NoRoom_UsherError : PySem.W.kitOne K (.ref c_NoRoom) (.ref c_UsherError) = some true
  k_NoRoom_ValueError : PySem.W.kitOne K (.ref c_NoRoom) (.type "ValueError") = some true
  k_NoServer_NoLine : PySem.W.kitOne K (.ref c_NoServer) (.ref c_NoLine) = some false
  k_NoServer_NoRoom : PySem.W.kitOne K (.ref c_NoServer) (.ref c_NoRoom) = some false
  k_NoServer_NoServer : PySem.W.kitOne K (.ref c_NoServer) (.ref c_NoServer) = some true
  k_NoServer_Twice : PySem.W.kitOne K (.ref c_NoServer) (.ref c_Twice) = some false
  k_NoServer_Unknown : PySem.W.kitOne K (.ref c_NoServer) (.ref c_Unknown) = some false
  k_NoServer_UsherError : PySem.W.kitOne K (.ref c_NoServer) (.ref c_UsherError) = some true
  k_NoServer_ValueError : PySem.W.kitOne K (.ref c_NoServer) (.type "ValueError") = some true
  k_Twice_NoLine : PySem.W.kitOne K (.ref c_Twice) (.ref c_NoLine) = some false
  k_Twice_NoRoom : PySem.W.kitOne K (.ref c_Twice) (.ref c_NoRoom) = some false
  k_Twice_NoServer : PySem.W.kitOne K (.ref c_Twice) (.ref c_NoServer) = some false
  k_Twice_Twice : PySem.W.kitOne K (.ref c_Twice) (.ref c_Twice) = some true
  k_Twice_Unknown : PySem.W.kitOne K (.ref c_Twice) (.ref c_Unknown) = some false
  k_Twice_UsherError : PySem.W.kitOne K (.ref c_Twice) (.ref c_UsherError) = some true
  k_Twice_ValueError : PySem.W.kitOne K (.ref c_Twice) (.type "ValueError") = some true
  k_Unknown_NoLine : PySem.W.kitOne K (.ref c_Unknown) (.ref c_NoLine) = some false
  k_Unknown_NoRoom : PySem.W.kitOne K (.ref c_Unknown) (.ref c_NoRoom) = some false
  k_Unknown_NoServer : PySem.W.kitOne K (.ref c_Unknown) (.ref c_NoServer) = some false
  k_Unknown_Twice : PySem.W.kitOne K (.ref c_Unknown) (.ref c_Twice) = some false
  k_Unknown_Unknown : PySem.W.kitOne K (.ref c_Unknown) (.ref c_Unknown) = some true
  k_Unknown_UsherError : PySem.W.kitOne K (.ref c_Unknown) (.ref c_UsherError) = some true
  k_Unknown_ValueError : PySem.W.kitOne K (.ref c_Unknown) (.type "ValueError") = some true
  m_NoRoom_UsherError : PySem.W.exmOne K (.ref c_NoRoom) (.ref c_UsherError) = some true
  x_NoLine : XcT K mg "NoLine" c_NoLine
  x_NoRoom : XcT K mg "NoRoom" c_NoRoom
  x_NoServer : XcT K mg "NoServer" c_NoServer
  x_Twice : XcT K mg "Twice" c_Twice
  x_Unknown : XcT K mg "Unknown" c_Unknown
  x_UsherError : XcT K mg "UsherError" c_UsherError
local macro_rules | `(tactic| walk_at "ob") => `(tactic| first | omega | (refine sz ?_; first | omega | decide +kernel | (simp only [app_len, sign_len, len_tx, List.length_map, List.length_range]; omega)) | (simp only [List.length_cons, List.length_nil, List.length_map, List.length_range, List.length_append]; first | omega | (with_reducible exact by_lt (by decide))) | (with_reducible assumption) | (with_reducible exact by_nn (by decide)) | (with_reducible exact by_lt (by decide)) | decide | trivial | (simp; done) | (simp; omega))
local macro_rules | `(tactic| walk_at "mul") => `(tactic| first | exact Or.inr ⟨by decide, by decide⟩ | exact Or.inl ⟨by decide, by decide⟩ | exact Or.inl ⟨by omega, by omega⟩ | exact Or.inr ⟨by omega, by omega⟩ | (with_reducible assumption))
local macro_rules | `(tactic| walk_at "lv") => `(tactic| first | (with_reducible exact lv_d) | ((with_reducible apply lv_o 0); (rfl)) | ((with_reducible apply lv_o 1); (rfl)) | ((with_reducible apply lv_o 2); (rfl)) | ((with_reducible apply lv_o 3); (rfl)) | ((with_reducible apply lv_o 4); (rfl)) | ((with_reducible apply lv_o 5); (rfl)))
local macro_rules | `(tactic| walk_at "ad1") => `(tactic| first | (with_reducible exact ad_int) | (with_reducible exact ad_str) | (with_reducible exact ad_bl) | (with_reducible exact ad_non) | (with_reducible exact ad_d) | ((with_reducible apply ad_tup); (walk_at "ad")) | (with_reducible exact ad_l))
local macro_rules | `(tactic| walk_at "ad") => `(tactic| first | (with_reducible exact AreD.nil) | ((with_reducible apply AreD.cons); (walk_at "ad1"); (walk_at "ad")))
local macro_rules | `(tactic| walk_at "tv") => `(tactic| first | (with_reducible exact tv_d) | ((with_reducible apply tv_s); (walk_at "ad")))
local macro_rules | `(tactic| walk_at "bin") => `(tactic| first | (with_reducible exact br_add) | (with_reducible exact br_sub) | ((with_reducible apply br_mod); (walk_at "ob")) | ((with_reducible apply br_mul); (walk_at "mul")) | ((with_reducible refine br_fdiv ?_); refine ⟨?_, ?_⟩ <;> walk_at "ob") | ((with_reducible refine br_fdivW ?_); refine cdivW ?_ ?_ <;> walk_at "ob") | ((with_reducible apply br_shr); (walk_at "ob")) | ((with_reducible apply br_adds); (walk_at "ob")))
local macro_rules | `(tactic| walk_at "cmp") => `(tactic| first | (with_reducible exact br_lt) | (with_reducible exact br_le) | (with_reducible exact br_gt) | (with_reducible exact br_ge) | (with_reducible exact br_eqI) | (with_reducible exact br_neI) | (with_reducible exact br_eqS) | (with_reducible exact br_neS) | (with_reducible exact br_eqB) | (with_reducible exact br_neB) | (with_reducible exact br_inS) | (with_reducible exact br_notInS) | (with_reducible exact br_isND) | (with_reducible exact br_notND) | (with_reducible exact br_isN) | (with_reducible exact br_notN) | ((with_reducible apply br_eqV); (rfl)) | ((with_reducible apply br_neV); (rfl)) | ((with_reducible apply br_inD (by assumption) (by assumption)); (walk_at "dc")) | ((with_reducible apply br_ninD (by assumption) (by assumption)); (walk_at "dc")) | ((with_reducible apply br_eqP (by assumption) (by assumption)); (walk_at "dv"); (walk_at "dv"); (walk_at "depo")) | ((with_reducible apply br_neP (by assumption) (by assumption)); (walk_at "dv"); (walk_at "dv"); (walk_at "depo")))
local macro_rules | `(tactic| walk_at "dv") => `(tactic| first | (with_reducible exact dv_d) | ((with_reducible apply dv_o 0); (rfl)) | ((with_reducible apply dv_o 1); (rfl)) | ((with_reducible apply dv_o 2); (rfl)) | ((with_reducible apply dv_o 3); (rfl)) | ((with_reducible apply dv_o 4); (rfl)) | ((with_reducible apply dv_o 5); (rfl)) | ((with_reducible apply dv_ad); (walk_at "ad1")))
local macro_rules | `(tactic| walk_at "depo") => `(tactic| first | (refine Or.inl ?_; walk_at "dep") | (refine Or.inr ?_; walk_at "dep"))
local macro_rules | `(tactic| walk_at "dep") => `(tactic| first | (with_reducible exact dep_int) | (with_reducible exact dep_str) | (with_reducible exact dep_bool) | (with_reducible exact dep_none) | (with_reducible exact dep_mkD) | (with_reducible exact dep_svD) | ((with_reducible apply dep_list); (walk_at "depA")) | ((with_reducible apply dep_tup); (walk_at "depA")) | (with_reducible assumption))
local macro_rules | `(tactic| walk_at "depA") => `(tactic| first | (with_reducible exact depA_nil) | ((with_reducible apply depA_cons); (walk_at "dep"); (walk_at "depA")) | ((with_reducible apply depA_map); (intro _); (walk_at "dep")) | ((with_reducible apply depA_app); (walk_at "depA"); (walk_at "depA")) | (with_reducible assumption))
local macro_rules | `(tactic| walk_at "ls") => `(tactic| first | (with_reducible exact ls_d) | (with_reducible exact ls_scr) | ((with_reducible apply ls_o 0); (rfl)) | ((with_reducible apply ls_o 1); (rfl)) | ((with_reducible apply ls_o 2); (rfl)) | ((with_reducible apply ls_o 3); (rfl)) | ((with_reducible apply ls_o 4); (rfl)) | ((with_reducible apply ls_o 5); (rfl)))
local macro_rules | `(tactic| walk_at "dc") => `(tactic| first | ((with_reducible apply dc_o 0); (rfl)) | ((with_reducible apply dc_o 1); (rfl)) | ((with_reducible apply dc_o 2); (rfl)) | ((with_reducible apply dc_o 3); (rfl)) | ((with_reducible apply dc_o 4); (rfl)) | ((with_reducible apply dc_o 5); (rfl)) | ((with_reducible apply dc_o 6); (rfl)) | ((with_reducible apply dc_o 7); (rfl)) | ((with_reducible apply dc_z 0); (rfl)) | ((with_reducible apply dc_z 1); (rfl)) | ((with_reducible apply dc_z 2); (rfl)) | ((with_reducible apply dc_z 3); (rfl)) | ((with_reducible apply dc_z 4); (rfl)) | ((with_reducible apply dc_z 5); (rfl)) | ((with_reducible apply dc_z 6); (rfl)) | ((with_reducible apply dc_z 7); (rfl)))
local macro_rules | `(tactic| walk_at "lk") => `(tactic| first | assumption | ((rw [lk_pos (by decide +kernel)]); done) | ((rw [lk_neg (by decide +kernel)]); (walk_at "lk")) | (simp [lk_onV, *]; done))
local macro_rules | `(tactic| walk_at "binN") => `(tactic| first | ((with_reducible apply bn_rep); (walk_at "lv"); (walk_at "ob"); (walk_at "ob"); (walk_at "ob")) | ((with_reducible apply bn_cat); (walk_at "lv"); (walk_at "lv"); (walk_at "ob")))
local macro_rules | `(tactic| walk_at "lend1") => `(tactic| first | ((with_reducible apply lend_o 0); (rfl)) | ((with_reducible apply lend_o 1); (rfl)) | ((with_reducible apply lend_o 2); (rfl)) | ((with_reducible apply lend_o 3); (rfl)) | ((with_reducible apply lend_o 4); (rfl)) | ((with_reducible apply lend_o 5); (rfl)) | ((with_reducible apply lend_o 6); (rfl)) | ((with_reducible apply lend_o 7); (rfl)) | (with_reducible exact lend_id))
local macro_rules | `(tactic| walk_at "lend") => `(tactic| first | exact All2.nil | ((with_reducible apply All2.cons); (walk_at "lend1"); (walk_at "lend")))
local macro_rules | `(tactic| walk_at "flatA") => `(tactic| first | exact flatA_nil | (refine flatA_cons ?_ ?_; walk_at "flat"; walk_at "flatA"))
local macro_rules | `(tactic| walk_at "flat") => `(tactic| first | (with_reducible exact flat_v) | ((with_reducible refine flat_tup ?_); walk_at "flatA") | ((with_reducible refine flat_d ?_); rfl))
local macro_rules | `(tactic| walk_at "hC") => `(tactic| first | exact fun _ _ => trivial | exact fun _ _ => rfl | exact fun _ _ => ⟨trivial, trivial⟩ | exact fun _ _ => ⟨rfl, rfl⟩ | exact fun _ _ => ⟨rfl, trivial⟩ | exact fun _ _ => ⟨trivial, rfl⟩)
local macro_rules | `(tactic| walk_at "ias") => `(tactic| first | exact sl_ints | exact sl_strs | exact sl_bools | exact zip_ints | rfl | (simp; done))
local macro_rules | `(tactic| walk_at "ix") => `(tactic| first | ((with_reducible apply ix_scr (by assumption)); (assumption)) | ((with_reducible apply ix_tplI (by assumption)); (walk_at "tv"); (rfl)) | ((with_reducible apply ix_tplS (by assumption)); (walk_at "tv"); (rfl)) | ((with_reducible apply ix_tplB (by assumption)); (walk_at "tv"); (rfl)) | ((with_reducible apply ix_tplL (by assumption)); (walk_at "tv"); (rfl)) | ((with_reducible apply ix_tplT (by assumption)); (walk_at "tv"); (rfl)) | ((with_reducible apply ix_stup (by assumption)); (rfl)) | ((with_reducible apply ix_lstI (by assumption)); (walk_at "lv"); (first | assumption | rfl)) | ((with_reducible apply ix_lstS (by assumption)); (walk_at "lv"); (first | assumption | rfl)) | ((with_reducible apply ix_lstL (by assumption)); (walk_at "lv"); (first | assumption | rfl)) | ((with_reducible apply ix_lstT (by assumption)); (walk_at "lv"); (first | assumption | rfl)) | ((with_reducible apply ix_lstB (by assumption)); (walk_at "lv"); (first | assumption | rfl)) | ((with_reducible apply ix_menuI (by assumption)); (walk_at "lv"); (rfl); (walk_at "ob"); (walk_at "ob")) | ((with_reducible apply ix_menuS (by assumption)); (walk_at "lv"); (rfl); (walk_at "ob"); (walk_at "ob")) | ((with_reducible apply ix_dct (by assumption) (by assumption)); (walk_at "dc"); (walk_at "lk")) | ((with_reducible apply ix_sign); (walk_at "ob"); (walk_at "ob"); (walk_at "ob")))
local macro_rules | `(tactic| walk_at "allI") => `(tactic| first | rfl | (simp [isI]; done) | (simp [isB]; done) | (simp [isS]; done))
local macro_rules | `(tactic| walk_at "cl") => `(tactic| first | (with_reducible exact cl_lenR (by assumption)) | ((with_reducible apply cl_len (by assumption)); (walk_at "lv")) | ((with_reducible apply cl_lenT (by assumption)); (walk_at "tv")) | ((with_reducible apply cl_lenS); (walk_at "ob")) | ((with_reducible apply cl_max2 (hcm := ?_) (by assumption)); (exact fun _ => rfl)) | ((with_reducible apply cl_min2 (hcm := ?_) (by assumption)); (exact fun _ => rfl)) | (with_reducible exact cl_intB) | ((with_reducible apply cl_list (by assumption)); (walk_at "lv")) | ((with_reducible apply cl_sum (by assumption)); (walk_at "lv"); (walk_at "allI"); (exact fun _ => rfl)) | ((with_reducible apply cl_str); (walk_at "ob")) | ((with_reducible apply cl_all (by assumption)); (walk_at "lv"); (walk_at "allI"); (exact fun _ => rfl)) | ((with_reducible apply cl_listD (by assumption)); (walk_at "dc"); (exact fun _ => rfl)) | ((with_reducible apply cl_dictD (by assumption)); (walk_at "dc")) | ((with_reducible apply cl_lenD 0); (rfl)) | ((with_reducible apply cl_lenD 1); (rfl)) | ((with_reducible apply cl_lenD 2); (rfl)) | ((with_reducible apply cl_lenD 3); (rfl)) | ((with_reducible apply cl_lenD 4); (rfl)) | ((with_reducible apply cl_lenD 5); (rfl)) | ((with_reducible apply cl_lenD 6); (rfl)) | ((with_reducible apply cl_lenD 7); (rfl)))
local macro_rules | `(tactic| walk_at "ty") => `(tactic| first | (with_reducible exact ty_int) | (with_reducible exact ty_str) | (with_reducible exact ty_bool) | (with_reducible exact ty_none) | (with_reducible exact ty_tup) | (with_reducible exact ty_stup) | ((with_reducible apply ty_list); (walk_at "lv")))
local macro_rules | `(tactic| walk_at "kit") => `(tactic| first | (with_reducible exact kit_int_int) | (with_reducible exact kit_int_str) | (with_reducible exact kit_int_bool) | (with_reducible exact kit_int_list) | (with_reducible exact kit_int_tuple) | (with_reducible exact kit_int_dict) | (with_reducible exact kit_str_int) | (with_reducible exact kit_str_str) | (with_reducible exact kit_str_bool) | (with_reducible exact kit_str_list) | (with_reducible exact kit_str_tuple) | (with_reducible exact kit_str_dict) | (with_reducible exact kit_bool_int) | (with_reducible exact kit_bool_str) | (with_reducible exact kit_bool_bool) | (with_reducible exact kit_bool_list) | (with_reducible exact kit_bool_tuple) | (with_reducible exact kit_bool_dict) | (with_reducible exact kit_NoneType_int) | (with_reducible exact kit_NoneType_str) | (with_reducible exact kit_NoneType_bool) | (with_reducible exact kit_NoneType_list) | (with_reducible exact kit_NoneType_tuple) | (with_reducible exact kit_NoneType_dict) | (with_reducible exact kit_list_int) | (with_reducible exact kit_list_str) | (with_reducible exact kit_list_bool) | (with_reducible exact kit_list_list) | (with_reducible exact kit_list_tuple) | (with_reducible exact kit_list_dict) | (with_reducible exact kit_tuple_int) | (with_reducible exact kit_tuple_str) | (with_reducible exact kit_tuple_bool) | (with_reducible exact kit_tuple_list) | (with_reducible exact kit_tuple_tuple) | (with_reducible exact kit_tuple_dict) | (with_reducible exact kit_dict_int) | (with_reducible exact kit_dict_str) | (with_reducible exact kit_dict_bool) | (with_reducible exact kit_dict_list) | (with_reducible exact kit_dict_tuple) | (with_reducible exact kit_dict_dict))
local macro_rules | `(tactic| walk_at "wk1") => `(tactic| first | (with_reducible exact wk_none) | (with_reducible exact wk_same) | exact wk_none | exact wk_same | exact wk_eq (by first | rfl | (simp only [List.foldl_append, List.foldl_cons, List.foldl_nil]; done) | (simp [*]; done)))
local macro_rules | `(tactic| walk_at "wk") => `(tactic| first | exact All2.nil | (refine All2.cons ?_ ?_; walk_at "wk1"; walk_at "wk"))
local macro_rules | `(tactic| walk_at "tgi") => `(tactic| first | exact fun _ _ _ h => h | exact fun _ _ _ h => tup_sl h)
local macro_rules | `(tactic| walk_at "pre") => `(tactic| first | (with_reducible assumption) | trivial | omega | (refine ⟨?_, ?_⟩ <;> walk_at "pre"))
section
variable {P : Program} {w : World} {K : PySem.W.Frag} {mg : Str → Option Value} {base : Heap} (T : Bt mg)
variable {c_NoLine c_NoRoom c_NoServer c_Twice c_Unknown c_UsherError : Addr} (XX : ExT K mg c_NoLine c_NoRoom c_NoServer c_Twice c_Unknown c_UsherError)
/-! _law_cell_at -/
abbrev sp_cell_at (K : PySem.W.Frag) : Sp := sp2 K (fun ns k => 0 ≤ k) sscr dI (fun ns k => dI (cellA ns k))
theorem sc_cell_at : FnScope ["_law_script", "_law_k"] ["_law_script", "_law_k"] (defScope (top 13)) := ⟨rfl, rfl, rfl, by decide +kernel, rfl, by decide +kernel, by decide +kernel⟩
include T in
theorem ok_cell_at {f : Addr} {fd : FuncData} (F : Fun K "_law_cell_at" "_law_cell_at" (top 13) f fd) : FnOk P w K mg base CX0 1 f fd ["_law_script", "_law_k"] (sp_cell_at K) := by
  refine fn2 F sc_cell_at rfl fun script k hp cdv A outer s H S0 A0 E Q hr F' hq => ?_
  refine blk_ifRet (te_cmp (ev_callB F' T.len boot_len (ar_cons (ev_var 0) ar_nil) (by walk_at "cl")) ev_int (by walk_at "cmp")) (fun hc => ?_) (fun hc => ?_)
  · have hl : (0 : Int) < script.length := of_decide_eq_true hc
    have h := cell_at_ok (ns := script) (k := k) (by omega)
    exact blk_ret (ev_ix (ev_var 0) (ev_bin (ev_var 1) (ev_callB F' T.len boot_len (ar_cons (ev_var 0) ar_nil) (by walk_at "cl")) (by walk_at "bin")) (by walk_at "ix")) (retE hq (by rfl))
  · have hl : ¬ (0 : Int) < script.length := of_decide_eq_false hc
    exact blk_ret ev_int (retE hq (by unfold cellA; rw [if_neg (by omega)]))

/-! _law_by -/
abbrev sp_by (K : PySem.W.Frag) : Sp := sp3 K (fun ns k m => (ns.length ≤ 63 ∧ 0 ≤ k) ∧ (k < 1000000 ∧ 0 < m)) sscr dI dI (fun ns k m => dI (byA ns k m))
theorem sc_by : FnScope ["_law_script", "_law_k", "_law_many", "_law_cell", "_law_part", "_law_seed"] ["_law_script", "_law_k", "_law_many"] (defScope (top 14)) := ⟨rfl, rfl, rfl, by decide +kernel, rfl, by decide +kernel, by decide +kernel⟩
include T in
theorem ok_by (d_cell_at : Def P w K mg base "_law_cell_at" ["_law_script", "_law_k"] 1 (sp_cell_at K)) {f : Addr} {fd : FuncData} (F : Fun K "_law_by" "_law_by" (top 14) f fd) : FnOk P w K mg base CX0 2 f fd ["_law_script", "_law_k", "_law_many"] (sp_by K) := by
  refine fn3 F sc_by rfl fun script k many hp cdv A outer s H S0 A0 E Q hr F' hq => ?_
  have c_cell_at := d_cell_at.cal hr
  obtain ⟨⟨hl, hk⟩, hk2, hm⟩ := hp
  refine blk_asg F' 3 (ev_call2 F' c_cell_at (ar_cons (ev_var 0) (ar_cons (ev_var 1) ar_nil)) (by walk_at "pre")) ?_
  refine blk_asg F' 4 ev_int ?_
  refine blk_if (Γ' := [some (sscr script), some (dI k), some (dI many), some (dI (cellA script k)), some (dI (partA script k)), none]) (R' := []) (te_cmp (ev_var 3) (ev_pow 1000000000000000000 ev_int ev_int) (by walk_at "cmp")) (fun hc => ?_) (fun hc => ?_) ?_
  · have h1 : (1000000000000000000 : Int) ≤ cellA script k := of_decide_eq_true hc
    have h2 : 0 < script.length := by
      by_cases h : 0 < script.length
      · exact h
      · unfold cellA at h1
        rw [if_neg h] at h1
        omega
    have h3 : 0 ≤ k / (script.length : Int) := Int.ediv_nonneg hk (by omega)
    refine blk_asg F' 4 (ev_bin (ev_var 3) (ev_bin ev_int (ev_bin (ev_var 1) (ev_callB F' T.len boot_len (ar_cons (ev_var 0) ar_nil) (by walk_at "cl")) (by walk_at "bin")) (by walk_at "bin")) (by walk_at "bin")) ?_
    have h4 : partA script k = cellA script k / 2 ^ (20 * (k / script.length)).toNat := if_pos h1
    rw [h4]
    exact blk_end (wkG (by walk_at "wk")) rfl
  · have h1 : ¬ (1000000000000000000 : Int) ≤ cellA script k := of_decide_eq_false hc
    have h4 : partA script k = 0 := if_neg h1
    rw [h4]
    exact blk_end (wkG (by walk_at "wk")) rfl
  refine blk_ifRet (te_cmp (ev_var 4) ev_int (by walk_at "cmp")) (fun hc => ?_) (fun hc => ?_)
  · have h1 := of_decide_eq_true hc
    exact blk_ret (ev_bin (ev_var 4) (ev_var 2) (by walk_at "bin")) (retE hq (by unfold byA; rw [if_pos h1]))
  have h1 := of_decide_eq_false hc
  refine blk_asg F' 5 (ev_bin (ev_bin (ev_bin (ev_var 3) ev_int (by walk_at "bin")) (ev_bin (ev_bin ev_int (ev_var 1) (by walk_at "bin")) (ev_var 1) (by walk_at "bin")) (by walk_at "bin")) ev_int (by walk_at "bin")) ?_
  exact blk_ret (ev_bin (ev_bin (ev_bin (ev_bin (ev_bin (ev_var 5) ev_int (by walk_at "bin")) ev_int (by walk_at "bin")) ev_int (by walk_at "bin")) ev_int (by walk_at "bin")) (ev_var 2) (by walk_at "bin")) (retE hq (by unfold byA; rw [if_neg h1]))

theorem rng_at {n x : Nat} {pre post : List Nat} (h : List.range n = pre ++ x :: post) : x = pre.length := by
  have h1 : (List.range n)[pre.length]? = some x := by rw [h]; simp
  have h2 : pre.length < n := by
    have := congrArg List.length h
    simp at this
    omega
  rw [List.getElem?_range h2] at h1
  exact (Option.some.inj h1).symm
theorem rng_lt {n x : Nat} {pre post : List Nat} (h : List.range n = pre ++ x :: post) : x < n := List.mem_range.mp (by rw [h]; simp)

/-! is_lighter -/
abbrev sp_is_lighter (K : PySem.W.Frag) : Sp := sp4 K (fun a v b w => (0 ≤ v ∧ v ≤ 20) ∧ (0 ≤ w ∧ w ≤ 20)) dI dI dI dI (fun a v b w => dB (decide (a * w < b * v)))
theorem sc_is_lighter : FnScope ["a", "v", "b", "w"] ["a", "v", "b", "w"] (defScope (top 8)) := ⟨rfl, rfl, rfl, by decide +kernel, rfl, by decide +kernel, by decide +kernel⟩
theorem ok_is_lighter {f : Addr} {fd : FuncData} (F : Fun K "is_lighter" "is_lighter" (top 8) f fd) : FnOk P w K mg base CX0 1 f fd ["a", "v", "b", "w"] (sp_is_lighter K) := by
  refine fn4 F sc_is_lighter rfl fun a v b w hp cdv A outer s H S0 A0 E Q hr F' hq => ?_
  obtain ⟨⟨h1, h2⟩, h3, h4⟩ := hp
  exact blk_ret (ev_cmp (ev_bin (ev_var 0) (ev_var 3) (by walk_at "bin")) (ev_bin (ev_var 2) (ev_var 1) (by walk_at "bin")) (by walk_at "cmp")) (retE hq (by rfl))


/-! room_in, next_place, dealt -/
abbrev dIL (z : List Int) : Sl := sd (.list (z.map .int))
abbrev sp_room_in (K : PySem.W.Frag) : Sp := sp2 K (fun held _ => held.length ≤ 1000) dIL dIL (fun held caps => dI (roomD held caps))
theorem sc_room_in : FnScope ["held", "caps", "many", "cap"] ["held", "caps"] (defScope (top 9)) := ⟨rfl, rfl, rfl, by decide +kernel, rfl, by decide +kernel, by decide +kernel⟩
include T in
theorem ok_room_in {f : Addr} {fd : FuncData} (F : Fun K "room_in" "room_in" (top 9) f fd) : FnOk P w K mg base CX0 1 f fd ["held", "caps"] (sp_room_in K) := by
  refine fn2 F sc_room_in rfl fun held caps hp cdv A outer s H S0 A0 E Q hr F' hq => ?_
  have hz : (held.zip caps).length ≤ 1000000 := by rw [List.length_zip]; have : held.length ≤ 1000 := hp; omega
  exact blk_ret (ev_callB F' T.sum boot_sum (ar_cons (frz (lc_el (lc_j (own := [("many", 2), ("cap", 3)]) F' (it_as (held.zip caps) (fun x => stup [dI x.1, dI x.2]) (it_zip F' T.zip (ev_var 0) (ev_var 1) ls_d ls_d) zip_ints) (fun _ => blkOk_at ["held", "caps", "many", "cap"] (defScope (top 9)) rfl rfl (by decide +kernel)) (fun F' => (tg_is (tg_tup F' (tgs_cons (tg_name F' 2) (tgs_cons (tg_name F' 3) tgs_nil))) (by walk_at "tgi"))) (by decide) (fun _ _ => ⟨trivial, trivial⟩) (fun F' D acc x hx => ts_nil) (fun F' D acc x hx hk => (ev_callB F' T.max boot_max (ar_cons ev_int (ar_cons (ev_bin (ev_var 3) (ev_var 2) (by walk_at "bin")) ar_nil)) (by walk_at "cl"))) (fun x hx hk => by walk_at "ad1") hz))) ar_nil) (cl_sum F' lv_d (by rw [List.all_map]; exact List.all_eq_true.mpr fun _ _ => rfl))) (retE hq (by rw [filt_true, List.map_map]; rfl))

/-- lists of a dealing -/
def dlOk (held ws caps : List Int) : Prop := ((held.length ≤ 1000 ∧ ws.length = held.length) ∧ caps.length = held.length) ∧ ∀ k, k < held.length → 1 ≤ ws.getD k 0 ∧ ws.getD k 0 ≤ 20
abbrev sp_next_place (K : PySem.W.Frag) : Sp := sp3 K (fun now ws caps => dlOk now ws caps) dIL dIL dIL (fun now ws caps => dOI (nextD now ws caps))
theorem sc_next_place : FnScope ["now", "weights", "caps", "best", "k"] ["now", "weights", "caps"] (defScope (top 10)) := ⟨rfl, rfl, rfl, by decide +kernel, rfl, by decide +kernel, by decide +kernel⟩
include T in
theorem ok_next_place (d_is_lighter : Def P w K mg base "is_lighter" ["a", "v", "b", "w"] 1 (sp_is_lighter K)) {f : Addr} {fd : FuncData} (F : Fun K "next_place" "next_place" (top 10) f fd) : FnOk P w K mg base CX0 2 f fd ["now", "weights", "caps"] (sp_next_place K) := by
  refine fn3 F sc_next_place rfl fun now ws caps hp cdv A outer s H S0 A0 E Q hr F' hq => ?_
  have c_is_lighter := d_is_lighter.cal hr
  obtain ⟨⟨⟨hln, hlw⟩, hlc⟩, hw⟩ := hp
  refine blk_asg F' 3 ev_none ?_
  refine blk_for (G := fun pre => [some (dIL now), some (dIL ws), some (dIL caps), some (dOI (pre.foldl (stepD now ws caps) none)), none]) (RR := fun pre => []) F' (fun _ => PassesOwn.never) (it_range1 F' T.range (ev_callB F' T.len boot_len (ar_cons (ev_var 0) ar_nil) (by walk_at "cl")) (by rw [List.length_map]; omega)) (tg_name F' 4) (wkG (by walk_at "wk")) (fun _ => trivial) (fun pre x post B' Z hs => ?_) ?_
  · have hpre : ∀ k, k ∈ pre ++ [x] → k < now.length := fun k hk => by
      have : k ∈ List.range ((now.map PyData.int).length : Int).toNat := by rw [hs]; rcases List.mem_append.mp hk with h | h; exact List.mem_append.mpr (.inl h); exact List.mem_append.mpr (.inr (by rw [List.mem_singleton.mp h]; exact List.mem_cons_self ..))
      simpa using this
    have hx := hpre x (by simp)
    have hfold : (pre ++ [x]).foldl (stepD now ws caps) none = stepD now ws caps (pre.foldl (stepD now ws caps) none) x := by rw [List.foldl_append]; rfl
    have hbest : ∀ b, pre.foldl (stepD now ws caps) none = some b → b < now.length := fun b hb => by
      rcases (fold_step pre none).2 b hb with h | h
      · exact nomatch h
      · exact hpre b (List.mem_append.mpr (.inl h.1))
    rw [hfold]
    generalize pre.foldl (stepD now ws caps) none = best at hbest ⊢
    have a1 := atI_ints (ns := now) hx
    have a2 := atI_ints (ns := ws) (k := x) (by omega)
    have a3 := atI_ints (ns := caps) (k := x) (by omega)
    have w1 := hw x hx
    refine blk_ifEnd (te_cmp (ev_ix (ev_var 0) (ev_var 4) (ix_lstI F' lv_d a1)) (ev_ix (ev_var 2) (ev_var 4) (ix_lstI F' lv_d a3)) (by walk_at "cmp")) (fun hc => ?_) (fun hc => ?_)
    · have hc := of_decide_eq_true hc
      cases best with
      | none =>
        have e : stepD now ws caps none x = some x := by unfold stepD; rw [if_pos hc]
        rw [e]
        refine blk_ifEnd (te_bop (tw_or (k := true) (j := false) (te_cmp (s1 := dN) (ev_var 3) ev_none br_isN) fun hb => nomatch hb)) (fun hc => ?_) (fun hc => nomatch hc)
        refine blk_asg F' 3 (ev_var 4) ?_
        exact blk_end (wkG (by walk_at "wk")) rfl
      | some b =>
        have hb := hbest b rfl
        have b1 := atI_ints (ns := now) hb
        have b2 := atI_ints (ns := ws) (k := b) (by omega)
        have w2 := hw b hb
        have e : stepD now ws caps (some b) x = if (now.getD x 0 + 1) * ws.getD b 0 < (now.getD b 0 + 1) * ws.getD x 0 then some x else some b := by unfold stepD; rw [if_pos hc]
        rw [e]
        refine blk_ifEnd (te_bop (tw_or (k := false) (te_cmp (s1 := dI (b : Int)) (ev_var 3) ev_none br_isN) fun hb => (tw_or1 (te_val (ev_call4 (x1 := now.getD x 0 + 1) (x2 := ws.getD x 0) (x3 := now.getD b 0 + 1) (x4 := ws.getD b 0) F' c_is_lighter (ar_cons (ev_bin (ev_ix (ev_var 0) (ev_var 4) (ix_lstI F' lv_d a1)) ev_int (by walk_at "bin")) (ar_cons (ev_ix (ev_var 1) (ev_var 4) (ix_lstI F' lv_d a2)) (ar_cons (ev_bin (ev_ix (ev_var 0) (ev_var 3 (s := dI (b : Int))) (ix_lstI F' lv_d b1)) ev_int (by walk_at "bin")) (ar_cons (ev_ix (ev_var 1) (ev_var 3 (s := dI (b : Int))) (ix_lstI F' lv_d b2)) ar_nil)))) (by exact ⟨⟨by omega, by omega⟩, by omega, by omega⟩)))))) (fun hc => ?_) (fun hc => ?_)
        · have hc : (now.getD x 0 + 1) * ws.getD b 0 < (now.getD b 0 + 1) * ws.getD x 0 := by simpa using hc
          rw [if_pos hc]
          refine blk_asg F' 3 (ev_var 4) ?_
          exact blk_end (wkG (by walk_at "wk")) rfl
        · have hc : ¬ (now.getD x 0 + 1) * ws.getD b 0 < (now.getD b 0 + 1) * ws.getD x 0 := by simpa using hc
          rw [if_neg hc]
          exact blk_end (wkG (by walk_at "wk")) rfl
    · have hc := of_decide_eq_false hc
      have e : stepD now ws caps best x = best := by unfold stepD; rw [if_neg hc]
      rw [e]
      exact blk_end (wkG (by walk_at "wk")) rfl
  exact blk_ret (ev_var 3) (retE hq (by rw [List.length_map, Int.toNat_natCast]; rfl))

theorem dl_set {held ws caps : List Int} {p : Nat} {z : Int} (h : dlOk held ws caps) : dlOk (held.set p z) ws caps := by
  obtain ⟨⟨⟨h1, h2⟩, h3⟩, h4⟩ := h
  exact ⟨⟨⟨by rw [List.length_set]; exact h1, by rw [List.length_set]; exact h2⟩, by rw [List.length_set]; exact h3⟩, fun k hk => h4 k (by rw [List.length_set] at hk; exact hk)⟩
abbrev sp_dealt (K : PySem.W.Frag) : Sp := spL4 K (fun held ws caps many => dlOk held ws caps ∧ (0 ≤ many ∧ many ≤ 100000) ∧ many ≤ roomD held caps) dIL dIL dIL dI (fun (held ws caps : List Int) (many : Int) => (dealD ws caps many.toNat held).map fun (p : Nat) => PyData.int (p : Int))
abbrev sp_dealtX (C : Addr) (K : PySem.W.Frag) : Sp := spR K (θ := List Int × List Int × List Int × Int) (fun i => dlOk i.1 i.2.1 i.2.2.1 ∧ roomD i.1 i.2.2.1 < i.2.2.2) (fun i => [dIL i.1, dIL i.2.1, dIL i.2.2.1, dI i.2.2.2]) (fun _ => []) C (fun _ => [])
theorem sc_dealt : FnScope ["held", "weights", "caps", "many", "now", "found", "k", "place"] ["held", "weights", "caps", "many"] (defScope (top 11)) := ⟨rfl, rfl, rfl, by decide +kernel, rfl, by decide +kernel, by decide +kernel⟩
include T in
theorem ok_dealt (d_room_in : Def P w K mg base "room_in" ["held", "caps"] 1 (sp_room_in K)) (d_next_place : Def P w K mg base "next_place" ["now", "weights", "caps"] 2 (sp_next_place K)) {f : Addr} {fd : FuncData} (F : Fun K "dealt" "dealt" (top 11) f fd) : FnOk P w K mg base CX0 3 f fd ["held", "weights", "caps", "many"] (sp_dealt K) := by
  refine fnL4 F sc_dealt rfl fun held ws caps many hp cdv A outer s H S0 A0 E Q hr F' hq => ?_
  have c_room_in := d_room_in.cal hr
  have c_next_place := d_next_place.cal hr
  obtain ⟨hok, ⟨hm0, hm1⟩, hroom⟩ := hp
  refine blk_ifRet (te_cmp (ev_var 3) (ev_call2 (x1 := held) (x2 := caps) F' c_room_in (ar_cons (ev_var 0) (ar_cons (ev_var 2) ar_nil)) (by exact hok.1.1.1)) (by walk_at "cmp")) (fun hc => ?_) (fun hc => ?_)
  · exfalso
    have := of_decide_eq_true hc
    omega
  refine blk_asgN F' 4 (ev_callTN F' T.list boot_list (ar_cons (ev_var 0) ar_nil) (by walk_at "cl")) fun p_now => ?_
  refine blk_asgN F' 5 (el_lst ar_nil (by walk_at "ad")) fun p_found => ?_
  refine blk_forX (γ := List Int × List Nat) (I := fun pre g => ((dlOk g.1 ws caps ∧ g.2.length = pre.length) ∧ roomD g.1 caps = roomD held caps - pre.length) ∧ g.2 ++ dealD ws caps (many.toNat - pre.length) g.1 = dealD ws caps many.toNat held) (G := fun pre g => [some (dIL held), some (dIL ws), some (dIL caps), some (dI many), some (SL.sv (.ref p_now)), some (SL.sv (.ref p_found)), none, none]) (RR := fun pre g => [rL p_now (g.1.map .int), rL p_found (g.2.map fun (p : Nat) => PyData.int (p : Int))]) F' (fun _ => PassesOwn.never) (it_range1 F' T.range (ev_var 3) (by walk_at "ob")) (tg_name F' 6) (held, []) ⟨⟨⟨hok, rfl⟩, by simp⟩, by simp⟩ (wkE rfl (by walk_at "wk")) (fun _ _ _ => trivial) (fun pre x post g B' Z hs hI => ?_) (fun g hI => ?_)
  · obtain ⟨now, found⟩ := g
    obtain ⟨⟨⟨hok2, hfl⟩, hrm⟩, hd⟩ := hI
    have hok2 : dlOk now ws caps := hok2
    have hfl : found.length = pre.length := hfl
    have hrm : roomD now caps = roomD held caps - pre.length := hrm
    have hd : found ++ dealD ws caps (many.toNat - pre.length) now = dealD ws caps many.toNat held := hd
    have hpl : pre.length < many.toNat := by
      have := congrArg List.length hs
      rw [List.length_range] at this
      simp at this
      omega
    obtain ⟨p, hp1, hp2, hp3⟩ := next_some (now := now) (ws := ws) (caps := caps) (by omega)
    have hl2 := hok2.1.1.1
    have e1 : many.toNat - pre.length = (many.toNat - (pre.length + 1)) + 1 := by omega
    have e2 : dealD ws caps ((many.toNat - (pre.length + 1)) + 1) now = p :: dealD ws caps (many.toNat - (pre.length + 1)) (now.set p (now.getD p 0 + 1)) := by
      show (match nextD now ws caps with
        | none => []
        | some p => p :: dealD ws caps (many.toNat - (pre.length + 1)) (now.set p (now.getD p 0 + 1))) = _
      rw [hp1]
    rw [e1, e2] at hd
    refine blk_asgE F' 7 (dI (p : Int)) (ev_lend3 (x1 := now) (x2 := ws) (x3 := caps) F' c_next_place (ar_cons (ev_var 4) (ar_cons (ev_var 1) (ar_cons (ev_var 2) ar_nil))) (by walk_at "lend") (by exact hok2) (by rw [hp1]; exact flat_v)) (by rw [hp1]; rfl) ?_
    have a1 := atI_ints (ns := now) hp2
    refine blk_setItem F' 0 (d := .int (now.getD p 0 + 1)) (ev_bin (ev_ix (ev_var 4) (ev_var 7) (ix_lstI F' (lv_o 0 rfl) a1)) ev_int (by walk_at "bin")) (ev_var 4) (ev_var 7) (by walk_at "ad1") rfl (by omega) (by rw [List.length_map]; exact Int.ofNat_lt.mpr hp2) ?_
    refine blk_expr (ev_append F' 1 (ev_var 5) (ev_var 7) (by walk_at "ad1") rfl (by rw [List.length_map]; omega)) ?_
    refine blk_endX rfl (now.set p (now.getD p 0 + 1), found ++ [p]) (wkE (by
      show [_, _] = _
      rw [List.map_append, List.map_set, Int.toNat_natCast]
      rfl) (by walk_at "wk")) ⟨⟨⟨dl_set hok2, by simp [hfl]⟩, ?_⟩, ?_⟩
    · show roomD (now.set p (now.getD p 0 + 1)) caps = _
      rw [room_set (by rw [hok2.1.2]; exact Nat.le_refl _) hp2 hp3, hrm, List.length_append]
      simp
      omega
    · show (found ++ [p]) ++ dealD ws caps (many.toNat - (pre ++ [x]).length) (now.set p (now.getD p 0 + 1)) = _
      rw [← hd, List.append_assoc, List.length_append]
      rfl
  obtain ⟨now, found⟩ := g
  obtain ⟨_, hd⟩ := hI
  have hd : found ++ dealD ws caps (many.toNat - (List.range many.toNat).length) now = dealD ws caps many.toNat held := hd
  rw [List.length_range, Nat.sub_self] at hd
  have hd : found ++ [] = dealD ws caps many.toNat held := hd
  rw [List.append_nil] at hd
  exact blk_ret (ev_var 5) (retK 1 hq (by rw [← hd]) rfl)

include T XX in
theorem ok_dealtX (d_room_in : Def P w K mg base "room_in" ["held", "caps"] 1 (sp_room_in K)) {f : Addr} {fd : FuncData} (F : Fun K "dealt" "dealt" (top 11) f fd) : FnOk P w K mg base (L2N.CX P w) 2 f fd ["held", "weights", "caps", "many"] (sp_dealtX c_NoRoom K) := by
  refine fnX F sc_dealt (fun _ => rfl) fun ⟨held, ws, caps, many⟩ hp cdv A outer s H S0 A0 E W Q hr F' tk ps hq => ?_
  have c_room_in := d_room_in.cal hr
  obtain ⟨hok, hroom⟩ := hp
  have hok : dlOk held ws caps := hok
  have hroom : roomD held caps < many := hroom
  refine blk_ifRet (te_cmp (ev_var 3) (ev_call2 (x1 := held) (x2 := caps) F' c_room_in (ar_cons (ev_var 0) (ar_cons (ev_var 2) ar_nil)) (by exact hok.1.1.1)) (by walk_at "cmp")) (fun hc => ?_) (fun hc => ?_)
  · exact blk_raise F' XX.x_NoRoom tk (fun S σ H q => hq _ S σ H q)
  · exfalso
    have := of_decide_eq_false hc
    have : ¬ many > roomD held caps := this
    omega


/-! _law_of_kind -/
def pk5 (c0 c1 c2 c3 c4 : Addr) : Nat → Addr
  | 0 => c0
  | 1 => c1
  | 2 => c2
  | 3 => c3
  | _ => c4
abbrev sp_of_kind (c0 c1 c2 c3 c4 : Addr) (K : PySem.W.Frag) : Sp := spJ K (θ := Addr × Nat) (ν := fun _ => Unit) (fun i => i.2 < 5) (fun i => [SL.sv (.ref i.1), dI (i.2 : Int)]) (fun i => [rX i.1 (pk5 c0 c1 c2 c3 c4 i.2)]) (fun i _ => [rX i.1 (pk5 c0 c1 c2 c3 c4 i.2)]) (fun _ _ => dB true)
theorem bools_plain (bs : List Bool) : (PyData.list (bs.map .bool)).plain = true := by rw [PyData.plain]; exact plA_map (fun _ => rfl) bs
theorem sc_of_kind : FnScope ["_law_e", "_law_kind", "_law_some", "_law_j"] ["_law_e", "_law_kind"] (defScope (top 15)) := ⟨rfl, rfl, rfl, by decide +kernel, rfl, by decide +kernel, by decide +kernel⟩
include T XX in
theorem ok_of_kind {f : Addr} {fd : FuncData} (F : Fun K "_law_of_kind" "_law_of_kind" (top 15) f fd) : FnOk P w K mg base CX0 1 f fd ["_law_e", "_law_kind"] (sp_of_kind c_NoLine c_NoRoom c_NoServer c_Twice c_Unknown K) := by
  refine fnG F sc_of_kind (fun _ => rfl) fun ⟨a, kind⟩ hp cdv A outer s H S0 A0 E Q hr F' hq => ?_
  match kind, hp with
  | 0, _ =>
    show Blk _ K _ _ [some (SL.sv (.ref a)), some (dI 0), none, none] [rX a c_NoLine] _ _
    refine blk_ifRet (k := false) (te_bop (tw_or (k := false) (j := false) (te_not (k := true) (te_val (ev_isV F' XX.e_NoLine 0 rfl T.isinstance (ev_var 0) (ev_glob F' (v := .ref c_UsherError) XX.x_UsherError.g rfl) (.own _) XX.k_NoLine_UsherError))) fun _ => tw_or1 (te_not (k := true) (te_val (ev_isV F' XX.e_NoLine 0 rfl T.isinstance (ev_var 0) (ev_bltn F' T.ValueError boot_ValueError (v := .ty "ValueError") rfl) (.ty _) XX.k_NoLine_ValueError))))) (fun z => nomatch z) (fun _ => ?_)
    refine blk_asgE F' 2 (sd (.list (([true, false, false] : List Bool).map PyData.bool))) (frz (ds := [.bool true, .bool false, .bool false]) (el_lst (ar_cons (ev_isV F' XX.e_NoLine 0 rfl T.isinstance (ev_var 0) (ev_glob F' (v := .ref c_NoLine) XX.x_NoLine.g rfl) (.own _) XX.k_NoLine_NoLine) (ar_cons (ev_isV F' XX.e_NoLine 0 rfl T.isinstance (ev_var 0) (ev_glob F' (v := .ref c_NoRoom) XX.x_NoRoom.g rfl) (.own _) XX.k_NoLine_NoRoom) (ar_cons (ev_isV F' XX.e_NoLine 0 rfl T.isinstance (ev_var 0) (ev_glob F' (v := .ref c_NoServer) XX.x_NoServer.g rfl) (.own _) XX.k_NoLine_NoServer) ar_nil))) (.cons ad_bl (.cons ad_bl (.cons ad_bl .nil))))) rfl ?_
    refine blk_asgE F' 2 (sd (.list (([true, false, false, false, false] : List Bool).map PyData.bool))) (frz (ev_binN (ev_var 2) (frz (ds := [.bool false, .bool false]) (el_lst (ar_cons (ev_isV F' XX.e_NoLine 0 rfl T.isinstance (ev_var 0) (ev_glob F' (v := .ref c_Twice) XX.x_Twice.g rfl) (.own _) XX.k_NoLine_Twice) (ar_cons (ev_isV F' XX.e_NoLine 0 rfl T.isinstance (ev_var 0) (ev_glob F' (v := .ref c_Unknown) XX.x_Unknown.g rfl) (.own _) XX.k_NoLine_Unknown) ar_nil)) (.cons ad_bl (.cons ad_bl .nil)))) (bn_cat lv_d lv_d (by show 3 + 2 ≤ 10000000; decide)))) rfl ?_
    exact blk_ret (ev_cmp (ev_var 2) (ev_eq (s2 := sd (.list (([true, false, false, false, false] : List Bool).map PyData.bool))) (frz (lc_el (lc_j (own := [("_law_j", 3)]) (k := fun _ => true) (d := fun x : Nat => .bool (decide ((x : Int) = 0))) F' (it_range1 (j := 5) F' T.range ev_int (by decide)) (fun _ => blkOk_at ["_law_e", "_law_kind", "_law_some", "_law_j"] (defScope (top 15)) rfl rfl (by decide +kernel)) (fun F' => (tg_name F' 3)) (by decide) (by walk_at "hC") (fun F' D acc x hx => ts_nil) (fun F' D acc x hx hk => ev_cmp (ev_var 3) (ev_var 1) br_eqI) (fun x hx hk => ad_bl) (by decide)))) rfl) (br_eqD1 F' hr dv_d dv_d (bools_plain _) (dep_list (depA_map fun _ => dep_bool)))) (retG hq () (List.Sublist.refl _) fun _ _ _ r => r)
  | 1, _ =>
    show Blk _ K _ _ [some (SL.sv (.ref a)), some (dI 1), none, none] [rX a c_NoRoom] _ _
    refine blk_ifRet (k := false) (te_bop (tw_or (k := false) (j := false) (te_not (k := true) (te_val (ev_isV F' XX.e_NoRoom 0 rfl T.isinstance (ev_var 0) (ev_glob F' (v := .ref c_UsherError) XX.x_UsherError.g rfl) (.own _) XX.k_NoRoom_UsherError))) fun _ => tw_or1 (te_not (k := true) (te_val (ev_isV F' XX.e_NoRoom 0 rfl T.isinstance (ev_var 0) (ev_bltn F' T.ValueError boot_ValueError (v := .ty "ValueError") rfl) (.ty _) XX.k_NoRoom_ValueError))))) (fun z => nomatch z) (fun _ => ?_)
    refine blk_asgE F' 2 (sd (.list (([false, true, false] : List Bool).map PyData.bool))) (frz (ds := [.bool false, .bool true, .bool false]) (el_lst (ar_cons (ev_isV F' XX.e_NoRoom 0 rfl T.isinstance (ev_var 0) (ev_glob F' (v := .ref c_NoLine) XX.x_NoLine.g rfl) (.own _) XX.k_NoRoom_NoLine) (ar_cons (ev_isV F' XX.e_NoRoom 0 rfl T.isinstance (ev_var 0) (ev_glob F' (v := .ref c_NoRoom) XX.x_NoRoom.g rfl) (.own _) XX.k_NoRoom_NoRoom) (ar_cons (ev_isV F' XX.e_NoRoom 0 rfl T.isinstance (ev_var 0) (ev_glob F' (v := .ref c_NoServer) XX.x_NoServer.g rfl) (.own _) XX.k_NoRoom_NoServer) ar_nil))) (.cons ad_bl (.cons ad_bl (.cons ad_bl .nil))))) rfl ?_
    refine blk_asgE F' 2 (sd (.list (([false, true, false, false, false] : List Bool).map PyData.bool))) (frz (ev_binN (ev_var 2) (frz (ds := [.bool false, .bool false]) (el_lst (ar_cons (ev_isV F' XX.e_NoRoom 0 rfl T.isinstance (ev_var 0) (ev_glob F' (v := .ref c_Twice) XX.x_Twice.g rfl) (.own _) XX.k_NoRoom_Twice) (ar_cons (ev_isV F' XX.e_NoRoom 0 rfl T.isinstance (ev_var 0) (ev_glob F' (v := .ref c_Unknown) XX.x_Unknown.g rfl) (.own _) XX.k_NoRoom_Unknown) ar_nil)) (.cons ad_bl (.cons ad_bl .nil)))) (bn_cat lv_d lv_d (by show 3 + 2 ≤ 10000000; decide)))) rfl ?_
    exact blk_ret (ev_cmp (ev_var 2) (ev_eq (s2 := sd (.list (([false, true, false, false, false] : List Bool).map PyData.bool))) (frz (lc_el (lc_j (own := [("_law_j", 3)]) (k := fun _ => true) (d := fun x : Nat => .bool (decide ((x : Int) = 1))) F' (it_range1 (j := 5) F' T.range ev_int (by decide)) (fun _ => blkOk_at ["_law_e", "_law_kind", "_law_some", "_law_j"] (defScope (top 15)) rfl rfl (by decide +kernel)) (fun F' => (tg_name F' 3)) (by decide) (by walk_at "hC") (fun F' D acc x hx => ts_nil) (fun F' D acc x hx hk => ev_cmp (ev_var 3) (ev_var 1) br_eqI) (fun x hx hk => ad_bl) (by decide)))) rfl) (br_eqD1 F' hr dv_d dv_d (bools_plain _) (dep_list (depA_map fun _ => dep_bool)))) (retG hq () (List.Sublist.refl _) fun _ _ _ r => r)
  | 2, _ =>
    show Blk _ K _ _ [some (SL.sv (.ref a)), some (dI 2), none, none] [rX a c_NoServer] _ _
    refine blk_ifRet (k := false) (te_bop (tw_or (k := false) (j := false) (te_not (k := true) (te_val (ev_isV F' XX.e_NoServer 0 rfl T.isinstance (ev_var 0) (ev_glob F' (v := .ref c_UsherError) XX.x_UsherError.g rfl) (.own _) XX.k_NoServer_UsherError))) fun _ => tw_or1 (te_not (k := true) (te_val (ev_isV F' XX.e_NoServer 0 rfl T.isinstance (ev_var 0) (ev_bltn F' T.ValueError boot_ValueError (v := .ty "ValueError") rfl) (.ty _) XX.k_NoServer_ValueError))))) (fun z => nomatch z) (fun _ => ?_)
    refine blk_asgE F' 2 (sd (.list (([false, false, true] : List Bool).map PyData.bool))) (frz (ds := [.bool false, .bool false, .bool true]) (el_lst (ar_cons (ev_isV F' XX.e_NoServer 0 rfl T.isinstance (ev_var 0) (ev_glob F' (v := .ref c_NoLine) XX.x_NoLine.g rfl) (.own _) XX.k_NoServer_NoLine) (ar_cons (ev_isV F' XX.e_NoServer 0 rfl T.isinstance (ev_var 0) (ev_glob F' (v := .ref c_NoRoom) XX.x_NoRoom.g rfl) (.own _) XX.k_NoServer_NoRoom) (ar_cons (ev_isV F' XX.e_NoServer 0 rfl T.isinstance (ev_var 0) (ev_glob F' (v := .ref c_NoServer) XX.x_NoServer.g rfl) (.own _) XX.k_NoServer_NoServer) ar_nil))) (.cons ad_bl (.cons ad_bl (.cons ad_bl .nil))))) rfl ?_
    refine blk_asgE F' 2 (sd (.list (([false, false, true, false, false] : List Bool).map PyData.bool))) (frz (ev_binN (ev_var 2) (frz (ds := [.bool false, .bool false]) (el_lst (ar_cons (ev_isV F' XX.e_NoServer 0 rfl T.isinstance (ev_var 0) (ev_glob F' (v := .ref c_Twice) XX.x_Twice.g rfl) (.own _) XX.k_NoServer_Twice) (ar_cons (ev_isV F' XX.e_NoServer 0 rfl T.isinstance (ev_var 0) (ev_glob F' (v := .ref c_Unknown) XX.x_Unknown.g rfl) (.own _) XX.k_NoServer_Unknown) ar_nil)) (.cons ad_bl (.cons ad_bl .nil)))) (bn_cat lv_d lv_d (by show 3 + 2 ≤ 10000000; decide)))) rfl ?_
    exact blk_ret (ev_cmp (ev_var 2) (ev_eq (s2 := sd (.list (([false, false, true, false, false] : List Bool).map PyData.bool))) (frz (lc_el (lc_j (own := [("_law_j", 3)]) (k := fun _ => true) (d := fun x : Nat => .bool (decide ((x : Int) = 2))) F' (it_range1 (j := 5) F' T.range ev_int (by decide)) (fun _ => blkOk_at ["_law_e", "_law_kind", "_law_some", "_law_j"] (defScope (top 15)) rfl rfl (by decide +kernel)) (fun F' => (tg_name F' 3)) (by decide) (by walk_at "hC") (fun F' D acc x hx => ts_nil) (fun F' D acc x hx hk => ev_cmp (ev_var 3) (ev_var 1) br_eqI) (fun x hx hk => ad_bl) (by decide)))) rfl) (br_eqD1 F' hr dv_d dv_d (bools_plain _) (dep_list (depA_map fun _ => dep_bool)))) (retG hq () (List.Sublist.refl _) fun _ _ _ r => r)
  | 3, _ =>
    show Blk _ K _ _ [some (SL.sv (.ref a)), some (dI 3), none, none] [rX a c_Twice] _ _
    refine blk_ifRet (k := false) (te_bop (tw_or (k := false) (j := false) (te_not (k := true) (te_val (ev_isV F' XX.e_Twice 0 rfl T.isinstance (ev_var 0) (ev_glob F' (v := .ref c_UsherError) XX.x_UsherError.g rfl) (.own _) XX.k_Twice_UsherError))) fun _ => tw_or1 (te_not (k := true) (te_val (ev_isV F' XX.e_Twice 0 rfl T.isinstance (ev_var 0) (ev_bltn F' T.ValueError boot_ValueError (v := .ty "ValueError") rfl) (.ty _) XX.k_Twice_ValueError))))) (fun z => nomatch z) (fun _ => ?_)
    refine blk_asgE F' 2 (sd (.list (([false, false, false] : List Bool).map PyData.bool))) (frz (ds := [.bool false, .bool false, .bool false]) (el_lst (ar_cons (ev_isV F' XX.e_Twice 0 rfl T.isinstance (ev_var 0) (ev_glob F' (v := .ref c_NoLine) XX.x_NoLine.g rfl) (.own _) XX.k_Twice_NoLine) (ar_cons (ev_isV F' XX.e_Twice 0 rfl T.isinstance (ev_var 0) (ev_glob F' (v := .ref c_NoRoom) XX.x_NoRoom.g rfl) (.own _) XX.k_Twice_NoRoom) (ar_cons (ev_isV F' XX.e_Twice 0 rfl T.isinstance (ev_var 0) (ev_glob F' (v := .ref c_NoServer) XX.x_NoServer.g rfl) (.own _) XX.k_Twice_NoServer) ar_nil))) (.cons ad_bl (.cons ad_bl (.cons ad_bl .nil))))) rfl ?_
    refine blk_asgE F' 2 (sd (.list (([false, false, false, true, false] : List Bool).map PyData.bool))) (frz (ev_binN (ev_var 2) (frz (ds := [.bool true, .bool false]) (el_lst (ar_cons (ev_isV F' XX.e_Twice 0 rfl T.isinstance (ev_var 0) (ev_glob F' (v := .ref c_Twice) XX.x_Twice.g rfl) (.own _) XX.k_Twice_Twice) (ar_cons (ev_isV F' XX.e_Twice 0 rfl T.isinstance (ev_var 0) (ev_glob F' (v := .ref c_Unknown) XX.x_Unknown.g rfl) (.own _) XX.k_Twice_Unknown) ar_nil)) (.cons ad_bl (.cons ad_bl .nil)))) (bn_cat lv_d lv_d (by show 3 + 2 ≤ 10000000; decide)))) rfl ?_
    exact blk_ret (ev_cmp (ev_var 2) (ev_eq (s2 := sd (.list (([false, false, false, true, false] : List Bool).map PyData.bool))) (frz (lc_el (lc_j (own := [("_law_j", 3)]) (k := fun _ => true) (d := fun x : Nat => .bool (decide ((x : Int) = 3))) F' (it_range1 (j := 5) F' T.range ev_int (by decide)) (fun _ => blkOk_at ["_law_e", "_law_kind", "_law_some", "_law_j"] (defScope (top 15)) rfl rfl (by decide +kernel)) (fun F' => (tg_name F' 3)) (by decide) (by walk_at "hC") (fun F' D acc x hx => ts_nil) (fun F' D acc x hx hk => ev_cmp (ev_var 3) (ev_var 1) br_eqI) (fun x hx hk => ad_bl) (by decide)))) rfl) (br_eqD1 F' hr dv_d dv_d (bools_plain _) (dep_list (depA_map fun _ => dep_bool)))) (retG hq () (List.Sublist.refl _) fun _ _ _ r => r)
  | 4, _ =>
    show Blk _ K _ _ [some (SL.sv (.ref a)), some (dI 4), none, none] [rX a c_Unknown] _ _
    refine blk_ifRet (k := false) (te_bop (tw_or (k := false) (j := false) (te_not (k := true) (te_val (ev_isV F' XX.e_Unknown 0 rfl T.isinstance (ev_var 0) (ev_glob F' (v := .ref c_UsherError) XX.x_UsherError.g rfl) (.own _) XX.k_Unknown_UsherError))) fun _ => tw_or1 (te_not (k := true) (te_val (ev_isV F' XX.e_Unknown 0 rfl T.isinstance (ev_var 0) (ev_bltn F' T.ValueError boot_ValueError (v := .ty "ValueError") rfl) (.ty _) XX.k_Unknown_ValueError))))) (fun z => nomatch z) (fun _ => ?_)
    refine blk_asgE F' 2 (sd (.list (([false, false, false] : List Bool).map PyData.bool))) (frz (ds := [.bool false, .bool false, .bool false]) (el_lst (ar_cons (ev_isV F' XX.e_Unknown 0 rfl T.isinstance (ev_var 0) (ev_glob F' (v := .ref c_NoLine) XX.x_NoLine.g rfl) (.own _) XX.k_Unknown_NoLine) (ar_cons (ev_isV F' XX.e_Unknown 0 rfl T.isinstance (ev_var 0) (ev_glob F' (v := .ref c_NoRoom) XX.x_NoRoom.g rfl) (.own _) XX.k_Unknown_NoRoom) (ar_cons (ev_isV F' XX.e_Unknown 0 rfl T.isinstance (ev_var 0) (ev_glob F' (v := .ref c_NoServer) XX.x_NoServer.g rfl) (.own _) XX.k_Unknown_NoServer) ar_nil))) (.cons ad_bl (.cons ad_bl (.cons ad_bl .nil))))) rfl ?_
    refine blk_asgE F' 2 (sd (.list (([false, false, false, false, true] : List Bool).map PyData.bool))) (frz (ev_binN (ev_var 2) (frz (ds := [.bool false, .bool true]) (el_lst (ar_cons (ev_isV F' XX.e_Unknown 0 rfl T.isinstance (ev_var 0) (ev_glob F' (v := .ref c_Twice) XX.x_Twice.g rfl) (.own _) XX.k_Unknown_Twice) (ar_cons (ev_isV F' XX.e_Unknown 0 rfl T.isinstance (ev_var 0) (ev_glob F' (v := .ref c_Unknown) XX.x_Unknown.g rfl) (.own _) XX.k_Unknown_Unknown) ar_nil)) (.cons ad_bl (.cons ad_bl .nil)))) (bn_cat lv_d lv_d (by show 3 + 2 ≤ 10000000; decide)))) rfl ?_
    exact blk_ret (ev_cmp (ev_var 2) (ev_eq (s2 := sd (.list (([false, false, false, false, true] : List Bool).map PyData.bool))) (frz (lc_el (lc_j (own := [("_law_j", 3)]) (k := fun _ => true) (d := fun x : Nat => .bool (decide ((x : Int) = 4))) F' (it_range1 (j := 5) F' T.range ev_int (by decide)) (fun _ => blkOk_at ["_law_e", "_law_kind", "_law_some", "_law_j"] (defScope (top 15)) rfl rfl (by decide +kernel)) (fun F' => (tg_name F' 3)) (by decide) (by walk_at "hC") (fun F' D acc x hx => ts_nil) (fun F' D acc x hx hk => ev_cmp (ev_var 3) (ev_var 1) br_eqI) (fun x hx hk => ad_bl) (by decide)))) rfl) (br_eqD1 F' hr dv_d dv_d (bools_plain _) (dep_list (depA_map fun _ => dep_bool)))) (retG hq () (List.Sublist.refl _) fun _ _ _ r => r)
  | _ + 5, h => exact absurd h (by show ¬ _ + 5 < 5; omega)
/-! _law_dealt_to_none -/
abbrev sp_dtn (C : Addr) (K : PySem.W.Frag) : Sp := spJ K (θ := Int) (ν := fun _ => Addr) (fun m => 1 ≤ m) (fun m => [dI m]) (fun _ => []) (fun _ a => [rX a C]) (fun _ a => SL.sv (.ref a))
theorem sc_dealt_to_none : FnScope ["_law_many", "_law_caught", "_law_e"] ["_law_many"] (defScope (top 16)) := ⟨rfl, rfl, rfl, by decide +kernel, rfl, by decide +kernel, by decide +kernel⟩
include T XX in
theorem ok_dtn (d_dealtX : DefR P w K mg base "dealt" ["held", "weights", "caps", "many"] 2 (sp_dealtX c_NoRoom K)) {f : Addr} {fd : FuncData} (F : Fun K "_law_dealt_to_none" "_law_dealt_to_none" (top 16) f fd) : FnOk P w K mg base CX0 3 f fd ["_law_many"] (sp_dtn c_NoRoom K) := by
  refine fnG F sc_dealt_to_none (fun _ => rfl) fun m hp cdv A outer s H S0 A0 E Q hr F' hq => ?_
  have c_dealtX := d_dealtX.cal hr
  have hp : 1 ≤ m := hp
  refine blk_asg F' 1 ev_none ?_
  refine blk_tryKeep (C := c_NoRoom) (R1 := []) (fun a => [some (dI m), some (SL.sv (.ref a)), none]) (fun _ => []) F' 2 (M := fun cls => PySem.W.exmOne K cls (.ref c_UsherError) = some true) (body_expr F' fun W FW tk => evr_callG FW c_dealtX tk ([], [], [], m) [] [] (ar_cons (frz (ds := []) (el_lst ar_nil .nil)) (ar_cons (frz (ds := []) (el_lst ar_nil .nil)) (ar_cons (frz (ds := []) (el_lst ar_nil .nil)) (ar_cons (ev_var 0) ar_nil)))) rfl ⟨⟨⟨⟨by show 0 ≤ 1000; decide, rfl⟩, rfl⟩, fun k hk => absurd hk (Nat.not_lt_zero k)⟩, by show roomD [] [] < m; have : roomD [] [] = 0 := rfl; omega⟩) (fun i => testK_name ⟨rfl, by decide, .inl XX.x_UsherError.g⟩) XX.m_NoRoom_UsherError (fun ad FS => ?_) (fun a => ?_)
  · refine blk_asg FS 1 (ev_var 2) ?_
    exact blk_endKeep 2 rfl (by walk_at "wk") rfl
  · exact blk_ret (ev_var 1) (retG hq a (by exact List.Sublist.refl _) fun _ _ _ r => r)
/-! law -/
theorem evn_ix {ι ν : Type} {X : ι → Cx} {K : PySem.W.Frag} {E : Ent} {Γ : Slots} {R : List Res} {a b : Expr} {pos : Pos} {Rn : ν → List Res} {sn sm : ν → Sl} {s2 : Sl} (ha : EvN X K E Γ R a Rn sn) (hb : ∀ n, EvJ X K E Γ (Rn n) b (Rn n) s2) (ho : ∀ n, IxJ X K E (Rn n) (sn n) s2 (sm n)) (hp : PlainIx b := by exact fun _ _ => rfl) : EvN X K E Γ R (.Subscript a b pos) Rn sm := by
  obtain ⟨ta, a1, a2⟩ := ha
  have hb' := fun n => Classical.choose_spec (hb n)
  have ho' := fun n => Classical.choose_spec (ho n)
  refine ⟨tOp (fun x y H Q => ∃ n, Classical.choose (ho n) x y H Q) ta _, fun i => pe_ix (fun value slice pins s σ H x y v u Q I rx ry ⟨n, h⟩ hs => (ho' n).1 i value slice pins s σ H x y v u Q I rx ry h hs) (a1 i) (pe_any fun n => (hb' n).1 i) hp, fun S σ H Q q k => ?_⟩
  refine a2 S σ H _ q fun n x S1 H1 e1 q1 r1 => ⟨n, (hb' n).2 S1 σ H1 _ q1 fun y S2 H2 e2 q2 r2 => ⟨n, ?_⟩⟩
  exact (ho' n).2 Γ S2 σ H2 x y _ q2 ((sn n).mono e2 r1) r2 fun v S3 H3 e3 q3 r3 => k n v S3 H3 ((e1.trans e2).trans e3) q3 r3
abbrev sp_law (K : PySem.W.Frag) : Sp := sp1 K (fun ns => ns.length ≤ 63) sscr (fun _ => dB true)
theorem sc_law : FnScope ["_law_script", "_law_start", "_law_k", "_law_kind", "_law_word", "_law_e"] ["_law_script"] (defScope (top 17)) := ⟨rfl, rfl, rfl, by decide +kernel, rfl, by decide +kernel, by decide +kernel⟩
include T XX in
theorem ok_law (d_by : Def P w K mg base "_law_by" ["_law_script", "_law_k", "_law_many"] 2 (sp_by K)) (d_of_kind : Def P w K mg base "_law_of_kind" ["_law_e", "_law_kind"] 1 (sp_of_kind c_NoLine c_NoRoom c_NoServer c_Twice c_Unknown K)) (d_dtn : Def P w K mg base "_law_dealt_to_none" ["_law_many"] 3 (sp_dtn c_NoRoom K)) {f : Addr} {fd : FuncData} (F : Fun K "law" "law" (top 17) f fd) : FnOk P w K mg base CX0 4 f fd ["_law_script"] (sp_law K) := by
  refine fn1 F sc_law rfl fun script hp cdv A outer s H S0 A0 E Q hr F' hq => ?_
  have c_by := d_by.cal hr
  have c_of_kind := d_of_kind.cal hr
  have c_dtn := d_dtn.cal hr
  have hl : script.length ≤ 63 := hp
  have v0a : 0 ≤ byA script 2 5 := by_nn (by decide)
  have v1a : 0 ≤ byA script 3 9 := by_nn (by decide)
  refine blk_asg F' 1 (ev_call3 F' c_by (ar_cons (ev_var 0) (ar_cons ev_int (ar_cons ev_int ar_nil))) (by exact ⟨⟨hl, by omega⟩, by omega, by decide⟩)) ?_
  refine blk_for (G := fun pre => [some (sscr script), some (dI (byA script 2 5)), none, none, none, none]) (RR := fun pre => []) F' (fun _ => PassesOwn.never) (it_range1 (j := 5) F' T.range ev_int (by decide)) (tg_name F' 2) (wkE rfl (by walk_at "wk")) (fun _ => trivial) (fun pre x post B' Z hs => ?_) ?_
  · have hpl : pre.length < 5 := by
      have := congrArg List.length hs
      simp at this
      omega
    have hx := rng_at hs
    subst hx
    have k0 : 0 ≤ (byA script 2 5 + (pre.length : Int)) % 5 := Int.emod_nonneg _ (by decide)
    have k1 : (byA script 2 5 + (pre.length : Int)) % 5 < 5 := Int.emod_lt_of_pos _ (by decide)
    obtain ⟨kd, hkd⟩ : ∃ z, z = (byA script 2 5 + (pre.length : Int)) % 5 := ⟨_, rfl⟩
    rw [← hkd] at k0 k1
    refine blk_asgE F' 3 (dI kd) (ev_bin (ev_bin (ev_var 1) (ev_var 2) (by walk_at "bin")) ev_int (by walk_at "bin")) (by rw [hkd]) ?_
    refine blk_asg F' 4 (ev_sliceS ev_str po_no (po_at (ev_call3 F' c_by (ar_cons (ev_var 0) (ar_cons (ev_bin ev_int (ev_var 2) (by walk_at "bin")) (ar_cons ev_int ar_nil))) (by exact ⟨⟨hl, by omega⟩, by omega, by decide⟩))) (by decide +kernel)) ?_
    have EX := fun {Γ : Slots} {R : List Res} => (rfl : R = R)
    rcases (by omega : kd = 0 ∨ kd = 1 ∨ kd = 2 ∨ kd = 3 ∨ kd = 4) with z | z | z | z | z
    · subst z
      refine blk_asgN F' 5 (evn_ix (sm := fun n => SL.sv (.ref n.1.1)) (el_lstR (arn_cons (ev_exc F' XX.x_NoLine (ev_var 4)) fun n0 => arn_cons (ev_exc F' XX.x_NoRoom (ev_var 4)) fun n1 => arn_cons (ev_exc F' XX.x_NoServer (ev_var 4)) fun n2 => arn_cons (ev_exc F' XX.x_Twice (ev_var 4)) fun n3 => arn_cons (ev_exc F' XX.x_Unknown (ev_var 4)) fun n4 => arn_nil)) (fun _ => ev_var 3) (fun n => ix_rls F' 5 rfl atI0)) fun n => ?_
      obtain ⟨⟨a0, a1, a2, a3, a4, _⟩, l⟩ := n
      refine blk_ifRet (te_not (k := true) (te_val (evu (ev_callG F' c_of_kind (a0, 0) [] [rX a1 c_NoRoom, rX a2 c_NoServer, rX a3 c_Twice, rX a4 c_Unknown, rLs l [SL.sv (.ref a0), SL.sv (.ref a1), SL.sv (.ref a2), SL.sv (.ref a3), SL.sv (.ref a4)]] (ar_cons (ev_var 5) (ar_cons (ev_var 3) ar_nil)) rfl (by show 0 < 5; decide))))) (fun z => nomatch z) (fun _ => ?_)
      refine blk_sub (R' := []) (List.nil_sublist _) ?_
      exact blk_endE rfl (by walk_at "wk") rfl
    · subst z
      refine blk_asgN F' 5 (evn_ix (sm := fun n => SL.sv (.ref n.1.2.1)) (el_lstR (arn_cons (ev_exc F' XX.x_NoLine (ev_var 4)) fun n0 => arn_cons (ev_exc F' XX.x_NoRoom (ev_var 4)) fun n1 => arn_cons (ev_exc F' XX.x_NoServer (ev_var 4)) fun n2 => arn_cons (ev_exc F' XX.x_Twice (ev_var 4)) fun n3 => arn_cons (ev_exc F' XX.x_Unknown (ev_var 4)) fun n4 => arn_nil)) (fun _ => ev_var 3) (fun n => ix_rls F' 5 rfl atI1)) fun n => ?_
      obtain ⟨⟨a0, a1, a2, a3, a4, _⟩, l⟩ := n
      refine blk_ifRet (te_not (k := true) (te_val (evu (ev_callG F' c_of_kind (a1, 1) [rX a0 c_NoLine] [rX a2 c_NoServer, rX a3 c_Twice, rX a4 c_Unknown, rLs l [SL.sv (.ref a0), SL.sv (.ref a1), SL.sv (.ref a2), SL.sv (.ref a3), SL.sv (.ref a4)]] (ar_cons (ev_var 5) (ar_cons (ev_var 3) ar_nil)) rfl (by show 1 < 5; decide))))) (fun z => nomatch z) (fun _ => ?_)
      refine blk_sub (R' := []) (List.nil_sublist _) ?_
      exact blk_endE rfl (by walk_at "wk") rfl
    · subst z
      refine blk_asgN F' 5 (evn_ix (sm := fun n => SL.sv (.ref n.1.2.2.1)) (el_lstR (arn_cons (ev_exc F' XX.x_NoLine (ev_var 4)) fun n0 => arn_cons (ev_exc F' XX.x_NoRoom (ev_var 4)) fun n1 => arn_cons (ev_exc F' XX.x_NoServer (ev_var 4)) fun n2 => arn_cons (ev_exc F' XX.x_Twice (ev_var 4)) fun n3 => arn_cons (ev_exc F' XX.x_Unknown (ev_var 4)) fun n4 => arn_nil)) (fun _ => ev_var 3) (fun n => ix_rls F' 5 rfl (atI_nat (j := 2) rfl))) fun n => ?_
      obtain ⟨⟨a0, a1, a2, a3, a4, _⟩, l⟩ := n
      refine blk_ifRet (te_not (k := true) (te_val (evu (ev_callG F' c_of_kind (a2, 2) [rX a0 c_NoLine, rX a1 c_NoRoom] [rX a3 c_Twice, rX a4 c_Unknown, rLs l [SL.sv (.ref a0), SL.sv (.ref a1), SL.sv (.ref a2), SL.sv (.ref a3), SL.sv (.ref a4)]] (ar_cons (ev_var 5) (ar_cons (ev_var 3) ar_nil)) rfl (by show 2 < 5; decide))))) (fun z => nomatch z) (fun _ => ?_)
      refine blk_sub (R' := []) (List.nil_sublist _) ?_
      exact blk_endE rfl (by walk_at "wk") rfl
    · subst z
      refine blk_asgN F' 5 (evn_ix (sm := fun n => SL.sv (.ref n.1.2.2.2.1)) (el_lstR (arn_cons (ev_exc F' XX.x_NoLine (ev_var 4)) fun n0 => arn_cons (ev_exc F' XX.x_NoRoom (ev_var 4)) fun n1 => arn_cons (ev_exc F' XX.x_NoServer (ev_var 4)) fun n2 => arn_cons (ev_exc F' XX.x_Twice (ev_var 4)) fun n3 => arn_cons (ev_exc F' XX.x_Unknown (ev_var 4)) fun n4 => arn_nil)) (fun _ => ev_var 3) (fun n => ix_rls F' 5 rfl (atI_nat (j := 3) rfl))) fun n => ?_
      obtain ⟨⟨a0, a1, a2, a3, a4, _⟩, l⟩ := n
      refine blk_ifRet (te_not (k := true) (te_val (evu (ev_callG F' c_of_kind (a3, 3) [rX a0 c_NoLine, rX a1 c_NoRoom, rX a2 c_NoServer] [rX a4 c_Unknown, rLs l [SL.sv (.ref a0), SL.sv (.ref a1), SL.sv (.ref a2), SL.sv (.ref a3), SL.sv (.ref a4)]] (ar_cons (ev_var 5) (ar_cons (ev_var 3) ar_nil)) rfl (by show 3 < 5; decide))))) (fun z => nomatch z) (fun _ => ?_)
      refine blk_sub (R' := []) (List.nil_sublist _) ?_
      exact blk_endE rfl (by walk_at "wk") rfl
    · subst z
      refine blk_asgN F' 5 (evn_ix (sm := fun n => SL.sv (.ref n.1.2.2.2.2.1)) (el_lstR (arn_cons (ev_exc F' XX.x_NoLine (ev_var 4)) fun n0 => arn_cons (ev_exc F' XX.x_NoRoom (ev_var 4)) fun n1 => arn_cons (ev_exc F' XX.x_NoServer (ev_var 4)) fun n2 => arn_cons (ev_exc F' XX.x_Twice (ev_var 4)) fun n3 => arn_cons (ev_exc F' XX.x_Unknown (ev_var 4)) fun n4 => arn_nil)) (fun _ => ev_var 3) (fun n => ix_rls F' 5 rfl (atI_nat (j := 4) rfl))) fun n => ?_
      obtain ⟨⟨a0, a1, a2, a3, a4, _⟩, l⟩ := n
      refine blk_ifRet (te_not (k := true) (te_val (evu (ev_callG F' c_of_kind (a4, 4) [rX a0 c_NoLine, rX a1 c_NoRoom, rX a2 c_NoServer, rX a3 c_Twice] [rLs l [SL.sv (.ref a0), SL.sv (.ref a1), SL.sv (.ref a2), SL.sv (.ref a3), SL.sv (.ref a4)]] (ar_cons (ev_var 5) (ar_cons (ev_var 3) ar_nil)) rfl (by show 4 < 5; decide))))) (fun z => nomatch z) (fun _ => ?_)
      refine blk_sub (R' := []) (List.nil_sublist _) ?_
      exact blk_endE rfl (by walk_at "wk") rfl
  exact blk_retN (ev_callGN F' c_of_kind (fun m => (m.1, 1)) (fun _ => []) (fun _ => []) (arn_cons (ev_callG F' c_dtn (1 + byA script 3 9) [] [] (ar_cons (ev_bin ev_int (ev_call3 F' c_by (ar_cons (ev_var 0) (ar_cons ev_int (ar_cons ev_int ar_nil))) (by exact ⟨⟨hl, by omega⟩, by omega, by decide⟩)) (by walk_at "bin")) ar_nil) rfl (by show 1 ≤ 1 + byA script 3 9; omega)) (fun _ => arn_consJ ev_int arn_nil)) (fun _ => rfl) (fun _ => rfl) (fun m => by show 1 < 5; decide)) fun n => retE hq rfl
end
theorem all_mk {l : PySem.W.OpenLaw} {w : World} {K : PySem.W.Frag} {h : Heap} {mg : Str → Option Value} {fa f1 f2 f3 f4 f5 f6 f7 f8 f9 c_NoLine c_NoRoom c_NoServer c_Twice c_Unknown c_UsherError : Addr} (X : K.In h) (G : h.Ns mainGlobals mg) (hfa : mg "law" = some (.ref fa))
    {od1 an1 od2 an2 od3 an3 od4 an4 od5 an5 od6 an6 od7 an7 od8 an8 od9 an9 : Option Addr} {sl1 sl2 sl3 sl4 sl5 sl6 sl7 sl8 sl9 : Array (Option Value)} {oc1 kV1 dc1 pm1 cd1 ct1 oc2 kV2 dc2 pm2 cd2 ct2 oc3 kV3 dc3 pm3 cd3 ct3 oc4 kV4 dc4 pm4 cd4 ct4 oc5 kV5 dc5 pm5 cd5 ct5 oc6 kV6 dc6 pm6 cd6 ct6 oc7 kV7 dc7 pm7 cd7 ct7 oc8 kV8 dc8 pm8 cd8 ct8 oc9 kV9 dc9 pm9 cd9 ct9 : Value}
    (a1 : PySem.W.nsIn K mainGlobals "_law_cell_at" = some (some (.ref f1))) (l1 : K.lookup f1 = some ⟨oc1, od1, .func (PySem.W.fnOf "_law_cell_at" "_law_cell_at" (defArgs (top 13)) (defBody (top 13)) (defScope (top 13)) .none kV1 dc1 pm1 an1 cd1 ct1), sl1⟩) (c1 : PySem.W.codeIn K cd1 "_law_cell_at" = true) (k1 : PySem.W.keepIn K (.ref f1) = true)
    (a2 : PySem.W.nsIn K mainGlobals "_law_by" = some (some (.ref f2))) (l2 : K.lookup f2 = some ⟨oc2, od2, .func (PySem.W.fnOf "_law_by" "_law_by" (defArgs (top 14)) (defBody (top 14)) (defScope (top 14)) .none kV2 dc2 pm2 an2 cd2 ct2), sl2⟩) (c2 : PySem.W.codeIn K cd2 "_law_by" = true) (k2 : PySem.W.keepIn K (.ref f2) = true)
    (a3 : PySem.W.nsIn K mainGlobals "is_lighter" = some (some (.ref f3))) (l3 : K.lookup f3 = some ⟨oc3, od3, .func (PySem.W.fnOf "is_lighter" "is_lighter" (defArgs (top 8)) (defBody (top 8)) (defScope (top 8)) .none kV3 dc3 pm3 an3 cd3 ct3), sl3⟩) (c3 : PySem.W.codeIn K cd3 "is_lighter" = true) (k3 : PySem.W.keepIn K (.ref f3) = true)
    (a4 : PySem.W.nsIn K mainGlobals "room_in" = some (some (.ref f4))) (l4 : K.lookup f4 = some ⟨oc4, od4, .func (PySem.W.fnOf "room_in" "room_in" (defArgs (top 9)) (defBody (top 9)) (defScope (top 9)) .none kV4 dc4 pm4 an4 cd4 ct4), sl4⟩) (c4 : PySem.W.codeIn K cd4 "room_in" = true) (k4 : PySem.W.keepIn K (.ref f4) = true)
    (a5 : PySem.W.nsIn K mainGlobals "next_place" = some (some (.ref f5))) (l5 : K.lookup f5 = some ⟨oc5, od5, .func (PySem.W.fnOf "next_place" "next_place" (defArgs (top 10)) (defBody (top 10)) (defScope (top 10)) .none kV5 dc5 pm5 an5 cd5 ct5), sl5⟩) (c5 : PySem.W.codeIn K cd5 "next_place" = true) (k5 : PySem.W.keepIn K (.ref f5) = true)
    (a6 : PySem.W.nsIn K mainGlobals "dealt" = some (some (.ref f6))) (l6 : K.lookup f6 = some ⟨oc6, od6, .func (PySem.W.fnOf "dealt" "dealt" (defArgs (top 11)) (defBody (top 11)) (defScope (top 11)) .none kV6 dc6 pm6 an6 cd6 ct6), sl6⟩) (c6 : PySem.W.codeIn K cd6 "dealt" = true) (k6 : PySem.W.keepIn K (.ref f6) = true)
    (a7 : PySem.W.nsIn K mainGlobals "_law_of_kind" = some (some (.ref f7))) (l7 : K.lookup f7 = some ⟨oc7, od7, .func (PySem.W.fnOf "_law_of_kind" "_law_of_kind" (defArgs (top 15)) (defBody (top 15)) (defScope (top 15)) .none kV7 dc7 pm7 an7 cd7 ct7), sl7⟩) (c7 : PySem.W.codeIn K cd7 "_law_of_kind" = true) (k7 : PySem.W.keepIn K (.ref f7) = true)
    (a8 : PySem.W.nsIn K mainGlobals "_law_dealt_to_none" = some (some (.ref f8))) (l8 : K.lookup f8 = some ⟨oc8, od8, .func (PySem.W.fnOf "_law_dealt_to_none" "_law_dealt_to_none" (defArgs (top 16)) (defBody (top 16)) (defScope (top 16)) .none kV8 dc8 pm8 an8 cd8 ct8), sl8⟩) (c8 : PySem.W.codeIn K cd8 "_law_dealt_to_none" = true) (k8 : PySem.W.keepIn K (.ref f8) = true)
    (a9 : PySem.W.nsIn K mainGlobals "law" = some (some (.ref f9))) (l9 : K.lookup f9 = some ⟨oc9, od9, .func (PySem.W.fnOf "law" "law" (defArgs (top 17)) (defBody (top 17)) (defScope (top 17)) .none kV9 dc9 pm9 an9 cd9 ct9), sl9⟩) (c9 : PySem.W.codeIn K cd9 "law" = true) (k9 : PySem.W.keepIn K (.ref f9) = true)
    (z1 : PySem.W.nsIn K mainGlobals "ValueError" = some (none))
    (z2 : PySem.W.nsIn K mainGlobals "isinstance" = some (none))
    (z3 : PySem.W.nsIn K mainGlobals "len" = some (none))
    (z4 : PySem.W.nsIn K mainGlobals "list" = some (none))
    (z5 : PySem.W.nsIn K mainGlobals "max" = some (none))
    (z6 : PySem.W.nsIn K mainGlobals "range" = some (none))
    (z7 : PySem.W.nsIn K mainGlobals "sum" = some (none))
    (z8 : PySem.W.nsIn K mainGlobals "zip" = some (none))
    (g_NoLine : PySem.W.nsIn K mainGlobals "NoLine" = some (some (.ref c_NoLine)))
    (g_NoRoom : PySem.W.nsIn K mainGlobals "NoRoom" = some (some (.ref c_NoRoom)))
    (g_NoServer : PySem.W.nsIn K mainGlobals "NoServer" = some (some (.ref c_NoServer)))
    (g_Twice : PySem.W.nsIn K mainGlobals "Twice" = some (some (.ref c_Twice)))
    (g_Unknown : PySem.W.nsIn K mainGlobals "Unknown" = some (some (.ref c_Unknown)))
    (g_UsherError : PySem.W.nsIn K mainGlobals "UsherError" = some (some (.ref c_UsherError)))
    (e_NoLine_hg : PySem.W.findIn K (.ref c_NoLine) "__getattribute__" = some (some (.builtin "BaseException.__getattribute__")))
    (e_NoLine_hk : PySem.W.findIn K (.ref c_NoLine) "__getattr__" = some none)
    (e_NoLine_hs : PySem.W.subIn K (.ref c_NoLine) (.type "BaseException") = some true)
    (e_NoLine_hd : PySem.W.hasDictIn K c_NoLine = true)
    (e_NoLine_ha : PySem.W.findIn K (.ref c_NoLine) "__class__" = some (some (.builtin "object.__class__")))
    (e_NoLine_hn : PySem.W.specialIn K (.builtin "object.__class__") "__get__" = some (some (.builtin "getset_descriptor.__get__")))
    (e_NoLine_ht : PySem.W.takesIn K (.builtin "object.__class__") = some true)
    (e_NoLine_hm : PySem.W.mroIn K c_NoLine (.type "object") = some true)
    (e_NoRoom_hg : PySem.W.findIn K (.ref c_NoRoom) "__getattribute__" = some (some (.builtin "BaseException.__getattribute__")))
    (e_NoRoom_hk : PySem.W.findIn K (.ref c_NoRoom) "__getattr__" = some none)
    (e_NoRoom_hs : PySem.W.subIn K (.ref c_NoRoom) (.type "BaseException") = some true)
    (e_NoRoom_hd : PySem.W.hasDictIn K c_NoRoom = true)
    (e_NoRoom_ha : PySem.W.findIn K (.ref c_NoRoom) "__class__" = some (some (.builtin "object.__class__")))
    (e_NoRoom_hm : PySem.W.mroIn K c_NoRoom (.type "object") = some true)
    (e_NoServer_hg : PySem.W.findIn K (.ref c_NoServer) "__getattribute__" = some (some (.builtin "BaseException.__getattribute__")))
    (e_NoServer_hk : PySem.W.findIn K (.ref c_NoServer) "__getattr__" = some none)
    (e_NoServer_hs : PySem.W.subIn K (.ref c_NoServer) (.type "BaseException") = some true)
    (e_NoServer_hd : PySem.W.hasDictIn K c_NoServer = true)
    (e_NoServer_ha : PySem.W.findIn K (.ref c_NoServer) "__class__" = some (some (.builtin "object.__class__")))
    (e_NoServer_hm : PySem.W.mroIn K c_NoServer (.type "object") = some true)
    (e_Twice_hg : PySem.W.findIn K (.ref c_Twice) "__getattribute__" = some (some (.builtin "BaseException.__getattribute__")))
    (e_Twice_hk : PySem.W.findIn K (.ref c_Twice) "__getattr__" = some none)
    (e_Twice_hs : PySem.W.subIn K (.ref c_Twice) (.type "BaseException") = some true)
    (e_Twice_hd : PySem.W.hasDictIn K c_Twice = true)
    (e_Twice_ha : PySem.W.findIn K (.ref c_Twice) "__class__" = some (some (.builtin "object.__class__")))
    (e_Twice_hm : PySem.W.mroIn K c_Twice (.type "object") = some true)
    (e_Unknown_hg : PySem.W.findIn K (.ref c_Unknown) "__getattribute__" = some (some (.builtin "BaseException.__getattribute__")))
    (e_Unknown_hk : PySem.W.findIn K (.ref c_Unknown) "__getattr__" = some none)
    (e_Unknown_hs : PySem.W.subIn K (.ref c_Unknown) (.type "BaseException") = some true)
    (e_Unknown_hd : PySem.W.hasDictIn K c_Unknown = true)
    (e_Unknown_ha : PySem.W.findIn K (.ref c_Unknown) "__class__" = some (some (.builtin "object.__class__")))
    (e_Unknown_hm : PySem.W.mroIn K c_Unknown (.type "object") = some true)
    (x_NoLine_ty : PySem.W.typeIn K (.ref c_NoLine) = some (.type "type"))
    (s_NoLine_NoLine : PySem.W.subIn K (.ref c_NoLine) (.ref c_NoLine) = some true)
    (x_NoRoom_ty : PySem.W.typeIn K (.ref c_NoRoom) = some (.type "type"))
    (s_NoLine_NoRoom : PySem.W.subIn K (.ref c_NoLine) (.ref c_NoRoom) = some false)
    (s_NoRoom_NoRoom : PySem.W.subIn K (.ref c_NoRoom) (.ref c_NoRoom) = some true)
    (x_NoServer_ty : PySem.W.typeIn K (.ref c_NoServer) = some (.type "type"))
    (s_NoLine_NoServer : PySem.W.subIn K (.ref c_NoLine) (.ref c_NoServer) = some false)
    (s_NoServer_NoServer : PySem.W.subIn K (.ref c_NoServer) (.ref c_NoServer) = some true)
    (x_Twice_ty : PySem.W.typeIn K (.ref c_Twice) = some (.type "type"))
    (s_NoLine_Twice : PySem.W.subIn K (.ref c_NoLine) (.ref c_Twice) = some false)
    (s_Twice_Twice : PySem.W.subIn K (.ref c_Twice) (.ref c_Twice) = some true)
    (x_Unknown_ty : PySem.W.typeIn K (.ref c_Unknown) = some (.type "type"))
    (s_NoLine_Unknown : PySem.W.subIn K (.ref c_NoLine) (.ref c_Unknown) = some false)
    (s_Unknown_Unknown : PySem.W.subIn K (.ref c_Unknown) (.ref c_Unknown) = some true)
    (x_UsherError_hd : PySem.W.hasDictIn K c_UsherError = true)
    (x_UsherError_ty : PySem.W.typeIn K (.ref c_UsherError) = some (.type "type"))
    (s_NoLine_UsherError : PySem.W.subIn K (.ref c_NoLine) (.ref c_UsherError) = some true)
    (s_UsherError_UsherError : PySem.W.subIn K (.ref c_UsherError) (.ref c_UsherError) = some true)
    (s_NoLine_ValueError : PySem.W.subIn K (.ref c_NoLine) (.type "ValueError") = some true)
    (s_NoRoom_NoLine : PySem.W.subIn K (.ref c_NoRoom) (.ref c_NoLine) = some false)
    (s_NoRoom_NoServer : PySem.W.subIn K (.ref c_NoRoom) (.ref c_NoServer) = some false)
    (s_NoRoom_Twice : PySem.W.subIn K (.ref c_NoRoom) (.ref c_Twice) = some false)
    (s_NoRoom_Unknown : PySem.W.subIn K (.ref c_NoRoom) (.ref c_Unknown) = some false)
    (s_NoRoom_UsherError : PySem.W.subIn K (.ref c_NoRoom) (.ref c_UsherError) = some true)
    (s_NoRoom_ValueError : PySem.W.subIn K (.ref c_NoRoom) (.type "ValueError") = some true)
    (s_NoServer_NoLine : PySem.W.subIn K (.ref c_NoServer) (.ref c_NoLine) = some false)
    (s_NoServer_NoRoom : PySem.W.subIn K (.ref c_NoServer) (.ref c_NoRoom) = some false)
    (s_NoServer_Twice : PySem.W.subIn K (.ref c_NoServer) (.ref c_Twice) = some false)
    (s_NoServer_Unknown : PySem.W.subIn K (.ref c_NoServer) (.ref c_Unknown) = some false)
    (s_NoServer_UsherError : PySem.W.subIn K (.ref c_NoServer) (.ref c_UsherError) = some true)
    (s_NoServer_ValueError : PySem.W.subIn K (.ref c_NoServer) (.type "ValueError") = some true)
    (s_Twice_NoLine : PySem.W.subIn K (.ref c_Twice) (.ref c_NoLine) = some false)
    (s_Twice_NoRoom : PySem.W.subIn K (.ref c_Twice) (.ref c_NoRoom) = some false)
    (s_Twice_NoServer : PySem.W.subIn K (.ref c_Twice) (.ref c_NoServer) = some false)
    (s_Twice_Unknown : PySem.W.subIn K (.ref c_Twice) (.ref c_Unknown) = some false)
    (s_Twice_UsherError : PySem.W.subIn K (.ref c_Twice) (.ref c_UsherError) = some true)
    (s_Twice_ValueError : PySem.W.subIn K (.ref c_Twice) (.type "ValueError") = some true)
    (s_Unknown_NoLine : PySem.W.subIn K (.ref c_Unknown) (.ref c_NoLine) = some false)
    (s_Unknown_NoRoom : PySem.W.subIn K (.ref c_Unknown) (.ref c_NoRoom) = some false)
    (s_Unknown_NoServer : PySem.W.subIn K (.ref c_Unknown) (.ref c_NoServer) = some false)
    (s_Unknown_Twice : PySem.W.subIn K (.ref c_Unknown) (.ref c_Twice) = some false)
    (s_Unknown_UsherError : PySem.W.subIn K (.ref c_Unknown) (.ref c_UsherError) = some true)
    (s_Unknown_ValueError : PySem.W.subIn K (.ref c_Unknown) (.type "ValueError") = some true)
    (x_UsherError_sb : PySem.W.subIn K (.ref c_UsherError) (.type "BaseException") = some true)
    (x_NoLine_ex : PySem.W.excIn K c_NoLine [.type "ValueError", .type "Exception", .type "BaseException", .type "object"] "ValueError.__new__" = true)
    (x_NoLine_kp : PySem.W.keepIn K (.ref c_NoLine) = true)
    (x_NoRoom_ex : PySem.W.excIn K c_NoRoom [.type "ValueError", .type "Exception", .type "BaseException", .type "object"] "ValueError.__new__" = true)
    (x_NoRoom_kp : PySem.W.keepIn K (.ref c_NoRoom) = true)
    (x_NoServer_ex : PySem.W.excIn K c_NoServer [.type "ValueError", .type "Exception", .type "BaseException", .type "object"] "ValueError.__new__" = true)
    (x_NoServer_kp : PySem.W.keepIn K (.ref c_NoServer) = true)
    (x_Twice_ex : PySem.W.excIn K c_Twice [.type "ValueError", .type "Exception", .type "BaseException", .type "object"] "ValueError.__new__" = true)
    (x_Twice_kp : PySem.W.keepIn K (.ref c_Twice) = true)
    (x_Unknown_ex : PySem.W.excIn K c_Unknown [.type "ValueError", .type "Exception", .type "BaseException", .type "object"] "ValueError.__new__" = true)
    (x_Unknown_kp : PySem.W.keepIn K (.ref c_Unknown) = true)
    (x_UsherError_ex : PySem.W.excIn K c_UsherError [.type "ValueError", .type "Exception", .type "BaseException", .type "object"] "ValueError.__new__" = true)
    (x_UsherError_kp : PySem.W.keepIn K (.ref c_UsherError) = true) :
    ∃ fd : FuncData, (∀ (s : Shared) (v : Value), BindsTo s fd ⟨[v], []⟩ [("_law_script", v)]) ∧ ∀ base : Heap, K.In base → base.Ns mainGlobals mg → FnOk l.prog w K mg base CX0 4 fa fd ["_law_script"] (sp_law K) := by
  have e := hfa.symm.trans (PySem.W.mg_of X G a9)
  cases e
  have T : Bt mg := ⟨PySem.W.mg_none_of X G z1, PySem.W.mg_none_of X G z2, PySem.W.mg_none_of X G z3, PySem.W.mg_none_of X G z4, PySem.W.mg_none_of X G z5, PySem.W.mg_none_of X G z6, PySem.W.mg_none_of X G z7, PySem.W.mg_none_of X G z8⟩
  have XX : ExT K mg c_NoLine c_NoRoom c_NoServer c_Twice c_Unknown c_UsherError := ⟨⟨e_NoLine_hg, e_NoLine_hk, e_NoLine_hs, e_NoLine_hd, e_NoLine_ha, e_NoLine_hn, e_NoLine_ht, e_NoLine_hm⟩, ⟨e_NoRoom_hg, e_NoRoom_hk, e_NoRoom_hs, e_NoRoom_hd, e_NoRoom_ha, e_NoLine_hn, e_NoLine_ht, e_NoRoom_hm⟩, ⟨e_NoServer_hg, e_NoServer_hk, e_NoServer_hs, e_NoServer_hd, e_NoServer_ha, e_NoLine_hn, e_NoLine_ht, e_NoServer_hm⟩, ⟨e_Twice_hg, e_Twice_hk, e_Twice_hs, e_Twice_hd, e_Twice_ha, e_NoLine_hn, e_NoLine_ht, e_Twice_hm⟩, ⟨e_Unknown_hg, e_Unknown_hk, e_Unknown_hs, e_Unknown_hd, e_Unknown_ha, e_NoLine_hn, e_NoLine_ht, e_Unknown_hm⟩, (kit_own e_NoLine_hd x_NoLine_ty s_NoLine_NoLine s_NoLine_NoLine), (kit_own e_NoRoom_hd x_NoRoom_ty s_NoLine_NoRoom s_NoRoom_NoRoom), (kit_own e_NoServer_hd x_NoServer_ty s_NoLine_NoServer s_NoServer_NoServer), (kit_own e_Twice_hd x_Twice_ty s_NoLine_Twice s_Twice_Twice), (kit_own e_Unknown_hd x_Unknown_ty s_NoLine_Unknown s_Unknown_Unknown), (kit_own x_UsherError_hd x_UsherError_ty s_NoLine_UsherError s_UsherError_UsherError), (kit_bty (by decide +kernel) s_NoLine_ValueError), (kit_own e_NoLine_hd x_NoLine_ty s_NoRoom_NoLine s_NoLine_NoLine), (kit_own e_NoRoom_hd x_NoRoom_ty s_NoRoom_NoRoom s_NoRoom_NoRoom), (kit_own e_NoServer_hd x_NoServer_ty s_NoRoom_NoServer s_NoServer_NoServer), (kit_own e_Twice_hd x_Twice_ty s_NoRoom_Twice s_Twice_Twice), (kit_own e_Unknown_hd x_Unknown_ty s_NoRoom_Unknown s_Unknown_Unknown), (kit_own x_UsherError_hd x_UsherError_ty s_NoRoom_UsherError s_UsherError_UsherError), (kit_bty (by decide +kernel) s_NoRoom_ValueError), (kit_own e_NoLine_hd x_NoLine_ty s_NoServer_NoLine s_NoLine_NoLine), (kit_own e_NoRoom_hd x_NoRoom_ty s_NoServer_NoRoom s_NoRoom_NoRoom), (kit_own e_NoServer_hd x_NoServer_ty s_NoServer_NoServer s_NoServer_NoServer), (kit_own e_Twice_hd x_Twice_ty s_NoServer_Twice s_Twice_Twice), (kit_own e_Unknown_hd x_Unknown_ty s_NoServer_Unknown s_Unknown_Unknown), (kit_own x_UsherError_hd x_UsherError_ty s_NoServer_UsherError s_UsherError_UsherError), (kit_bty (by decide +kernel) s_NoServer_ValueError), (kit_own e_NoLine_hd x_NoLine_ty s_Twice_NoLine s_NoLine_NoLine), (kit_own e_NoRoom_hd x_NoRoom_ty s_Twice_NoRoom s_NoRoom_NoRoom), (kit_own e_NoServer_hd x_NoServer_ty s_Twice_NoServer s_NoServer_NoServer), (kit_own e_Twice_hd x_Twice_ty s_Twice_Twice s_Twice_Twice), (kit_own e_Unknown_hd x_Unknown_ty s_Twice_Unknown s_Unknown_Unknown), (kit_own x_UsherError_hd x_UsherError_ty s_Twice_UsherError s_UsherError_UsherError), (kit_bty (by decide +kernel) s_Twice_ValueError), (kit_own e_NoLine_hd x_NoLine_ty s_Unknown_NoLine s_NoLine_NoLine), (kit_own e_NoRoom_hd x_NoRoom_ty s_Unknown_NoRoom s_NoRoom_NoRoom), (kit_own e_NoServer_hd x_NoServer_ty s_Unknown_NoServer s_NoServer_NoServer), (kit_own e_Twice_hd x_Twice_ty s_Unknown_Twice s_Twice_Twice), (kit_own e_Unknown_hd x_Unknown_ty s_Unknown_Unknown s_Unknown_Unknown), (kit_own x_UsherError_hd x_UsherError_ty s_Unknown_UsherError s_UsherError_UsherError), (kit_bty (by decide +kernel) s_Unknown_ValueError), PySem.W.exm_ref x_UsherError_sb x_UsherError_hd x_UsherError_ty s_NoRoom_UsherError, ⟨PySem.W.mg_of X G g_NoLine, x_NoLine_ex, x_NoLine_kp, e_NoLine_hs, x_NoLine_ty, e_NoLine_hd⟩, ⟨PySem.W.mg_of X G g_NoRoom, x_NoRoom_ex, x_NoRoom_kp, e_NoRoom_hs, x_NoRoom_ty, e_NoRoom_hd⟩, ⟨PySem.W.mg_of X G g_NoServer, x_NoServer_ex, x_NoServer_kp, e_NoServer_hs, x_NoServer_ty, e_NoServer_hd⟩, ⟨PySem.W.mg_of X G g_Twice, x_Twice_ex, x_Twice_kp, e_Twice_hs, x_Twice_ty, e_Twice_hd⟩, ⟨PySem.W.mg_of X G g_Unknown, x_Unknown_ex, x_Unknown_kp, e_Unknown_hs, x_Unknown_ty, e_Unknown_hd⟩, ⟨PySem.W.mg_of X G g_UsherError, x_UsherError_ex, x_UsherError_kp, x_UsherError_sb, x_UsherError_ty, x_UsherError_hd⟩⟩
  have F1 := fun_mk (st := top 13) l1 c1 k1
  have b1 := F1.binds (ps := ["_law_script", "_law_k"]) fun _ _ _ _ _ _ us hl => match us, hl with | [_, _], _ => rfl
  have F2 := fun_mk (st := top 14) l2 c2 k2
  have b2 := F2.binds (ps := ["_law_script", "_law_k", "_law_many"]) fun _ _ _ _ _ _ us hl => match us, hl with | [_, _, _], _ => rfl
  have F3 := fun_mk (st := top 8) l3 c3 k3
  have b3 := F3.binds (ps := ["a", "v", "b", "w"]) fun _ _ _ _ _ _ us hl => match us, hl with | [_, _, _, _], _ => rfl
  have F4 := fun_mk (st := top 9) l4 c4 k4
  have b4 := F4.binds (ps := ["held", "caps"]) fun _ _ _ _ _ _ us hl => match us, hl with | [_, _], _ => rfl
  have F5 := fun_mk (st := top 10) l5 c5 k5
  have b5 := F5.binds (ps := ["now", "weights", "caps"]) fun _ _ _ _ _ _ us hl => match us, hl with | [_, _, _], _ => rfl
  have F6 := fun_mk (st := top 11) l6 c6 k6
  have b6 := F6.binds (ps := ["held", "weights", "caps", "many"]) fun _ _ _ _ _ _ us hl => match us, hl with | [_, _, _, _], _ => rfl
  have F7 := fun_mk (st := top 15) l7 c7 k7
  have b7 := F7.binds (ps := ["_law_e", "_law_kind"]) fun _ _ _ _ _ _ us hl => match us, hl with | [_, _], _ => rfl
  have F8 := fun_mk (st := top 16) l8 c8 k8
  have b8 := F8.binds (ps := ["_law_many"]) fun _ _ _ _ _ _ us hl => match us, hl with | [_], _ => rfl
  have F9 := fun_mk (st := top 17) l9 c9 k9
  refine ⟨PySem.W.fnOf "law" "law" (defArgs (top 17)) (defBody (top 17)) (defScope (top 17)) .none kV9 dc9 pm9 an9 cd9 ct9, fun s v => .of_eq rfl, fun base _ _ => ?_⟩
  have d_cell_at : Def l.prog w K mg base "_law_cell_at" ["_law_script", "_law_k"] 1 (sp_cell_at K) := ⟨_, _, ok_cell_at T  F1, PySem.W.mg_of X G a1, k1, b1⟩
  have d_by : Def l.prog w K mg base "_law_by" ["_law_script", "_law_k", "_law_many"] 2 (sp_by K) := ⟨_, _, ok_by T d_cell_at F2, PySem.W.mg_of X G a2, k2, b2⟩
  have d_is_lighter : Def l.prog w K mg base "is_lighter" ["a", "v", "b", "w"] 1 (sp_is_lighter K) := ⟨_, _, ok_is_lighter  F3, PySem.W.mg_of X G a3, k3, b3⟩
  have d_room_in : Def l.prog w K mg base "room_in" ["held", "caps"] 1 (sp_room_in K) := ⟨_, _, ok_room_in T  F4, PySem.W.mg_of X G a4, k4, b4⟩
  have d_next_place : Def l.prog w K mg base "next_place" ["now", "weights", "caps"] 2 (sp_next_place K) := ⟨_, _, ok_next_place T d_is_lighter F5, PySem.W.mg_of X G a5, k5, b5⟩
  have d_dealt : Def l.prog w K mg base "dealt" ["held", "weights", "caps", "many"] 3 (sp_dealt K) := ⟨_, _, ok_dealt T d_room_in d_next_place F6, PySem.W.mg_of X G a6, k6, b6⟩
  have d_dealtX : DefR l.prog w K mg base "dealt" ["held", "weights", "caps", "many"] 2 (sp_dealtX c_NoRoom K) := ⟨_, _, ok_dealtX T XX d_room_in F6, PySem.W.mg_of X G a6, k6, b6⟩
  have d_of_kind : Def l.prog w K mg base "_law_of_kind" ["_law_e", "_law_kind"] 1 (sp_of_kind c_NoLine c_NoRoom c_NoServer c_Twice c_Unknown K) := ⟨_, _, ok_of_kind T XX  F7, PySem.W.mg_of X G a7, k7, b7⟩
  have d_dtn : Def l.prog w K mg base "_law_dealt_to_none" ["_law_many"] 3 (sp_dtn c_NoRoom K) := ⟨_, _, ok_dtn T XX d_dealtX F8, PySem.W.mg_of X G a8, k8, b8⟩
  exact ok_law T XX d_by d_of_kind d_dtn F9
theorem walk {l : PySem.W.OpenLaw} {q : Program} {loose : List Str} {XP : (Str → Option Value) → Heap → Prop} {YP : World → Heap → Prop} {d : DefRec} {K : Params → PySem.W.Frag} (hn : l.most = some 63) (hdf : d.params.defaults = [])
    (hY : ∀ (w : World) (h : Heap), YP w h → (K w.params).In h)
    (F : ∀ (w : World) (mg : Str → Option Value) (fa : Addr) (h : Heap), (K w.params).In h → h.Ns mainGlobals mg → mg d.name = some (.ref fa) →
      ∃ fd : FuncData, (∀ (s : Shared) (u : Value), BindsTo s fd ⟨[u], []⟩ [("_law_script", u)]) ∧ ∀ base : Heap, (K w.params).In base → base.Ns mainGlobals mg → FnOk l.prog w (K w.params) mg base CX0 4 fa fd ["_law_script"] (sp_law (K w.params))) :
    PySem.W.WalkO q loose XP YP l.row.toRowW d [] (fun f vs => PySem.call f vs) :=
  L2.walk_of (n := 63) (k := 4) (x := "_law_script") (CX := fun _ => CX0) (sp := fun w => sp_law (K w.params)) hn (by decide) hdf ⟨rfl, by decide, by decide⟩ hY F (fun w H a ns hl Q hS => spLaw_of hl hS) fun _ _ _ _ _ z => z
end SL
open PySem PySem.W PyProof.Rows
set_option maxRecDepth 100000 in
set_option maxHeartbeats 0 in
theorem PySem.Challenge.cw_usher_k11_refusals_apart_holds : PySem.Challenge.rw_usher_k11_refusals_apart.Holds := by
  w_on; o_law; k_head; (case hw => w_witness2)
  k_fill
  refine SL.walk (l := PySem.Challenge.rw_usher_k11_refusals_apart) rfl rfl (fun w h Y => PySem.W.kIn_of Y) ?F
  case F =>
    intro w mg fa h KX G hmg
    refine' SL.all_mk KX G hmg (g_NoLine := ?g_NoLine) (g_NoRoom := ?g_NoRoom) (g_NoServer := ?g_NoServer) (g_Twice := ?g_Twice) (g_Unknown := ?g_Unknown) (g_UsherError := ?g_UsherError) (a1 := ?a1) (l1 := ?l1) (c1 := ?c1) (k1 := ?k1) (a2 := ?a2) (l2 := ?l2) (c2 := ?c2) (k2 := ?k2) (a3 := ?a3) (l3 := ?l3) (c3 := ?c3) (k3 := ?k3) (a4 := ?a4) (l4 := ?l4) (c4 := ?c4) (k4 := ?k4) (a5 := ?a5) (l5 := ?l5) (c5 := ?c5) (k5 := ?k5) (a6 := ?a6) (l6 := ?l6) (c6 := ?c6) (k6 := ?k6) (a7 := ?a7) (l7 := ?l7) (c7 := ?c7) (k7 := ?k7) (a8 := ?a8) (l8 := ?l8) (c8 := ?c8) (k8 := ?k8) (a9 := ?a9) (l9 := ?l9) (c9 := ?c9) (k9 := ?k9) (z1 := ?z1) (z2 := ?z2) (z3 := ?z3) (z4 := ?z4) (z5 := ?z5) (z6 := ?z6) (z7 := ?z7) (z8 := ?z8) (e_NoLine_hg := ?e_NoLine_hg) (e_NoLine_hk := ?e_NoLine_hk) (e_NoLine_hs := ?e_NoLine_hs) (e_NoLine_hd := ?e_NoLine_hd) (e_NoLine_ha := ?e_NoLine_ha) (e_NoLine_hn := ?e_NoLine_hn) (e_NoLine_ht := ?e_NoLine_ht) (e_NoLine_hm := ?e_NoLine_hm) (e_NoRoom_hg := ?e_NoRoom_hg) (e_NoRoom_hk := ?e_NoRoom_hk) (e_NoRoom_hs := ?e_NoRoom_hs) (e_NoRoom_hd := ?e_NoRoom_hd) (e_NoRoom_ha := ?e_NoRoom_ha) (e_NoRoom_hm := ?e_NoRoom_hm) (e_NoServer_hg := ?e_NoServer_hg) (e_NoServer_hk := ?e_NoServer_hk) (e_NoServer_hs := ?e_NoServer_hs) (e_NoServer_hd := ?e_NoServer_hd) (e_NoServer_ha := ?e_NoServer_ha) (e_NoServer_hm := ?e_NoServer_hm) (e_Twice_hg := ?e_Twice_hg) (e_Twice_hk := ?e_Twice_hk) (e_Twice_hs := ?e_Twice_hs) (e_Twice_hd := ?e_Twice_hd) (e_Twice_ha := ?e_Twice_ha) (e_Twice_hm := ?e_Twice_hm) (e_Unknown_hg := ?e_Unknown_hg) (e_Unknown_hk := ?e_Unknown_hk) (e_Unknown_hs := ?e_Unknown_hs) (e_Unknown_hd := ?e_Unknown_hd) (e_Unknown_ha := ?e_Unknown_ha) (e_Unknown_hm := ?e_Unknown_hm) (x_NoLine_ty := ?x_NoLine_ty) (s_NoLine_NoLine := ?s_NoLine_NoLine) (x_NoRoom_ty := ?x_NoRoom_ty) (s_NoLine_NoRoom := ?s_NoLine_NoRoom) (s_NoRoom_NoRoom := ?s_NoRoom_NoRoom) (x_NoServer_ty := ?x_NoServer_ty) (s_NoLine_NoServer := ?s_NoLine_NoServer) (s_NoServer_NoServer := ?s_NoServer_NoServer) (x_Twice_ty := ?x_Twice_ty) (s_NoLine_Twice := ?s_NoLine_Twice) (s_Twice_Twice := ?s_Twice_Twice) (x_Unknown_ty := ?x_Unknown_ty) (s_NoLine_Unknown := ?s_NoLine_Unknown) (s_Unknown_Unknown := ?s_Unknown_Unknown) (x_UsherError_hd := ?x_UsherError_hd) (x_UsherError_ty := ?x_UsherError_ty) (s_NoLine_UsherError := ?s_NoLine_UsherError) (s_UsherError_UsherError := ?s_UsherError_UsherError) (s_NoLine_ValueError := ?s_NoLine_ValueError) (s_NoRoom_NoLine := ?s_NoRoom_NoLine) (s_NoRoom_NoServer := ?s_NoRoom_NoServer) (s_NoRoom_Twice := ?s_NoRoom_Twice) (s_NoRoom_Unknown := ?s_NoRoom_Unknown) (s_NoRoom_UsherError := ?s_NoRoom_UsherError) (s_NoRoom_ValueError := ?s_NoRoom_ValueError) (s_NoServer_NoLine := ?s_NoServer_NoLine) (s_NoServer_NoRoom := ?s_NoServer_NoRoom) (s_NoServer_Twice := ?s_NoServer_Twice) (s_NoServer_Unknown := ?s_NoServer_Unknown) (s_NoServer_UsherError := ?s_NoServer_UsherError) (s_NoServer_ValueError := ?s_NoServer_ValueError) (s_Twice_NoLine := ?s_Twice_NoLine) (s_Twice_NoRoom := ?s_Twice_NoRoom) (s_Twice_NoServer := ?s_Twice_NoServer) (s_Twice_Unknown := ?s_Twice_Unknown) (s_Twice_UsherError := ?s_Twice_UsherError) (s_Twice_ValueError := ?s_Twice_ValueError) (s_Unknown_NoLine := ?s_Unknown_NoLine) (s_Unknown_NoRoom := ?s_Unknown_NoRoom) (s_Unknown_NoServer := ?s_Unknown_NoServer) (s_Unknown_Twice := ?s_Unknown_Twice) (s_Unknown_UsherError := ?s_Unknown_UsherError) (s_Unknown_ValueError := ?s_Unknown_ValueError) (x_UsherError_sb := ?x_UsherError_sb) (x_NoLine_ex := ?x_NoLine_ex) (x_NoLine_kp := ?x_NoLine_kp) (x_NoRoom_ex := ?x_NoRoom_ex) (x_NoRoom_kp := ?x_NoRoom_kp) (x_NoServer_ex := ?x_NoServer_ex) (x_NoServer_kp := ?x_NoServer_kp) (x_Twice_ex := ?x_Twice_ex) (x_Twice_kp := ?x_Twice_kp) (x_Unknown_ex := ?x_Unknown_ex) (x_Unknown_kp := ?x_Unknown_kp) (x_UsherError_ex := ?x_UsherError_ex) (x_UsherError_kp := ?x_UsherError_kp)
    (case g_NoLine => k_is)
    (case g_NoRoom => k_is)
    (case g_NoServer => k_is)
    (case g_Twice => k_is)
    (case g_Unknown => k_is)
    (case g_UsherError => k_is)
    (case a1 => k_is)
    (case l1 => k_is)
    (case c1 => k_is)
    (case k1 => k_is)
    (case a2 => k_is)
    (case l2 => k_is)
    (case c2 => k_is)
    (case k2 => k_is)
    (case a3 => k_is)
    (case l3 => k_is)
    (case c3 => k_is)
    (case k3 => k_is)
    (case a4 => k_is)
    (case l4 => k_is)
    (case c4 => k_is)
    (case k4 => k_is)
    (case a5 => k_is)
    (case l5 => k_is)
    (case c5 => k_is)
    (case k5 => k_is)
    (case a6 => k_is)
    (case l6 => k_is)
    (case c6 => k_is)
    (case k6 => k_is)
    (case a7 => k_is)
    (case l7 => k_is)
    (case c7 => k_is)
    (case k7 => k_is)
    (case a8 => k_is)
    (case l8 => k_is)
    (case c8 => k_is)
    (case k8 => k_is)
    (case a9 => k_is)
    (case l9 => k_is)
    (case c9 => k_is)
    (case k9 => k_is)
    (case z1 => k_is)
    (case z2 => k_is)
    (case z3 => k_is)
    (case z4 => k_is)
    (case z5 => k_is)
    (case z6 => k_is)
    (case z7 => k_is)
    (case z8 => k_is)
    (case e_NoLine_hg => k_is)
    (case e_NoLine_hk => k_is)
    (case e_NoLine_hs => k_is)
    (case e_NoLine_hd => k_is)
    (case e_NoLine_ha => k_is)
    (case e_NoLine_hn => k_is)
    (case e_NoLine_ht => k_is)
    (case e_NoLine_hm => k_is)
    (case e_NoRoom_hg => k_is)
    (case e_NoRoom_hk => k_is)
    (case e_NoRoom_hs => k_is)
    (case e_NoRoom_hd => k_is)
    (case e_NoRoom_ha => k_is)
    (case e_NoRoom_hm => k_is)
    (case e_NoServer_hg => k_is)
    (case e_NoServer_hk => k_is)
    (case e_NoServer_hs => k_is)
    (case e_NoServer_hd => k_is)
    (case e_NoServer_ha => k_is)
    (case e_NoServer_hm => k_is)
    (case e_Twice_hg => k_is)
    (case e_Twice_hk => k_is)
    (case e_Twice_hs => k_is)
    (case e_Twice_hd => k_is)
    (case e_Twice_ha => k_is)
    (case e_Twice_hm => k_is)
    (case e_Unknown_hg => k_is)
    (case e_Unknown_hk => k_is)
    (case e_Unknown_hs => k_is)
    (case e_Unknown_hd => k_is)
    (case e_Unknown_ha => k_is)
    (case e_Unknown_hm => k_is)
    (case x_NoLine_ty => k_is)
    (case s_NoLine_NoLine => k_is)
    (case x_NoRoom_ty => k_is)
    (case s_NoLine_NoRoom => k_is)
    (case s_NoRoom_NoRoom => k_is)
    (case x_NoServer_ty => k_is)
    (case s_NoLine_NoServer => k_is)
    (case s_NoServer_NoServer => k_is)
    (case x_Twice_ty => k_is)
    (case s_NoLine_Twice => k_is)
    (case s_Twice_Twice => k_is)
    (case x_Unknown_ty => k_is)
    (case s_NoLine_Unknown => k_is)
    (case s_Unknown_Unknown => k_is)
    (case x_UsherError_hd => k_is)
    (case x_UsherError_ty => k_is)
    (case s_NoLine_UsherError => k_is)
    (case s_UsherError_UsherError => k_is)
    (case s_NoLine_ValueError => k_is)
    (case s_NoRoom_NoLine => k_is)
    (case s_NoRoom_NoServer => k_is)
    (case s_NoRoom_Twice => k_is)
    (case s_NoRoom_Unknown => k_is)
    (case s_NoRoom_UsherError => k_is)
    (case s_NoRoom_ValueError => k_is)
    (case s_NoServer_NoLine => k_is)
    (case s_NoServer_NoRoom => k_is)
    (case s_NoServer_Twice => k_is)
    (case s_NoServer_Unknown => k_is)
    (case s_NoServer_UsherError => k_is)
    (case s_NoServer_ValueError => k_is)
    (case s_Twice_NoLine => k_is)
    (case s_Twice_NoRoom => k_is)
    (case s_Twice_NoServer => k_is)
    (case s_Twice_Unknown => k_is)
    (case s_Twice_UsherError => k_is)
    (case s_Twice_ValueError => k_is)
    (case s_Unknown_NoLine => k_is)
    (case s_Unknown_NoRoom => k_is)
    (case s_Unknown_NoServer => k_is)
    (case s_Unknown_Twice => k_is)
    (case s_Unknown_UsherError => k_is)
    (case s_Unknown_ValueError => k_is)
    (case x_UsherError_sb => k_is)
    (case x_NoLine_ex => k_exc)
    (case x_NoLine_kp => k_is)
    (case x_NoRoom_ex => k_exc)
    (case x_NoRoom_kp => k_is)
    (case x_NoServer_ex => k_exc)
    (case x_NoServer_kp => k_is)
    (case x_Twice_ex => k_exc)
    (case x_Twice_kp => k_is)
    (case x_Unknown_ex => k_exc)
    (case x_Unknown_kp => k_is)
    (case x_UsherError_ex => k_exc)
    (case x_UsherError_kp => k_is)
#print axioms PySem.Challenge.cw_usher_k11_refusals_apart_holds
