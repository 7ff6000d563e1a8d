import PyProof.Rows.All
import Wide.All
import OpenK.AllK
import Wide.FinOn
import HandS.ForMost
import HandS.ForExc
import HandS.HotCalls
import HandS.Wide
import HandS.CallSlots
import HandS.IsInst
import HandS.TupAny
import HandS.TupMul
import HandS.Conv
import HandS.Small
import HandS.ExcInit
import HandS.ExcField
import HandS.ExcInitHot
import HandS.MakeKw
import HandS.MakeKwOnly
import HandS.SortInts
import HandS.NoneIn
import KE.KTupSum
import KE.DataMinMax
import HandS.Strs
import HandS.SetFor
import PyProof.ListNew
import PyProof.Rows.SetFrom
import HandS.ExcIs
import KE.KExcIs
import HandS.Iter
import HandS.Rev
import HandS.Dict
import HandS.More
import KE.GoesEnum
import HandS.Set
import HandS.TupLe
import KE.DatumOrd
import KE.KFind
import HandS.OwnIter
import HandS.IterVal
import HandS.Deep
import HandS.ExcValue
import KE.KOpsOwn
import PySem.Challenge.RW_retinue_k03_raised_and_joined
set_option Elab.async false
set_option linter.all false
set_option maxRecDepth 100000
set_option maxHeartbeats 4000000
set_option autoImplicit false
namespace DL
open PySem PySem.Spec PyProof.Rows L2

/-! ### deep data, results -/
inductive D where
  | non | bl (b : Bool) | int (i : Int) | str (x : Str)
  | lst (xs : List D) | tup (xs : List D)
  | scr (xs : List D)
  | obj (C : Str) (fs : List (Str × D))

structure Ex where
  cls : Str
  args : List (Str × D)

inductive M (α : Type) where
  | ok (x : α) | er (x : Ex) | no

def mb {α β : Type} (m : M α) (f : α → M β) : M β := match m with
  | .ok x => f x
  | .er e => .er e
  | .no => .no
@[simp] theorem mb_ok {α β : Type} (x : α) (f : α → M β) : mb (.ok x) f = f x := rfl
@[simp] theorem mb_er {α β : Type} (x : Ex) (f : α → M β) : mb (.er x) f = .er x := rfl
@[simp] theorem mb_no {α β : Type} (f : α → M β) : mb .no f = .no := rfl
theorem mb_assoc {α β γ : Type} (m : M α) (f : α → M β) (g : β → M γ) : mb (mb m f) g = mb m fun x => mb (f x) g := by
  cases m <;> rfl
theorem mb_ite {α β : Type} (c : Prop) [Decidable c] (a b : M α) (f : α → M β) : mb (if c then a else b) f = if c then mb a f else mb b f := by
  split <;> rfl

/-! ### denotation -/
section
variable (K : PySem.W.Frag) (ca : Str → Addr)
mutual
inductive Den : Hp → V → D → Prop where
  | non {H : Hp} : Den H .non .non
  | bl {H : Hp} (b : Bool) : Den H (.bl b) (.bl b)
  | int {H : Hp} (i : Int) : Den H (.int i) (.int i)
  | str {H : Hp} (x : Str) : Den H (.str x) (.str x)
  | lst {H : Hp} {a : Addr} {vs : List V} {ds : List D} : H a = some (.lst vs) → DenL H vs ds → Den H (.ref a) (.lst ds)
  | scr {H : Hp} {a : Addr} {vs : List V} {ds : List D} : SqL K H a vs → DenL H vs ds → Den H (.ref a) (.scr ds)
  | tup {H : Hp} {a : Addr} {vs : List V} {ds : List D} : SqT K H a vs → DenL H vs ds → Den H (.ref a) (.tup ds)
  | obj {H : Hp} {a : Addr} {C : Str} {dx : Addr} {fs : List (Str × V)} {gs : List (Str × D)} : H a = some (.ins (ca C) dx fs) → DenF H fs gs → Den H (.ref a) (.obj C gs)
inductive DenL : Hp → List V → List D → Prop where
  | nil {H : Hp} : DenL H [] []
  | cons {H : Hp} {v : V} {d : D} {vs : List V} {ds : List D} : Den H v d → DenL H vs ds → DenL H (v :: vs) (d :: ds)
inductive DenF : Hp → List (Str × V) → List (Str × D) → Prop where
  | nil {H : Hp} : DenF H [] []
  | cons {H : Hp} {f : Str} {v : V} {d : D} {vs : List (Str × V)} {ds : List (Str × D)} : Den H v d → DenF H vs ds → DenF H ((f, v) :: vs) ((f, d) :: ds)
end
end

theorem same_seqT {K : PySem.W.Frag} {H H' : Hp} {a : Addr} {xs : List V} (e : Same H H') (h : SqT K H a xs) : SqT K H' a xs := by
  rcases h with (h | ⟨o, h⟩) | h
  · exact .inl (.inl (e _ _ h))
  · exact .inl (.inr ⟨o, e _ _ h⟩)
  · exact .inr h

section
variable {K : PySem.W.Frag} {ca : Str → Addr} {H H' : Hp}
mutual
theorem Den.mono (e : Same H H') : ∀ {v : V} {d : D}, Den K ca H v d → Den K ca H' v d
  | _, _, .non => .non
  | _, _, .bl b => .bl b
  | _, _, .int i => .int i
  | _, _, .str x => .str x
  | _, _, .lst h t => .lst (e _ _ h) (DenL.mono e t)
  | _, _, .scr h t => .scr (e.seq h) (DenL.mono e t)
  | _, _, .tup h t => .tup (same_seqT e h) (DenL.mono e t)
  | _, _, .obj h t => .obj (e _ _ h) (DenF.mono e t)
theorem DenL.mono (e : Same H H') : ∀ {v : List V} {d : List D}, DenL K ca H v d → DenL K ca H' v d
  | _, _, .nil => .nil
  | _, _, .cons h t => .cons (Den.mono e h) (DenL.mono e t)
theorem DenF.mono (e : Same H H') : ∀ {v : List (Str × V)} {d : List (Str × D)}, DenF K ca H v d → DenF K ca H' v d
  | _, _, .nil => .nil
  | _, _, .cons h t => .cons (Den.mono e h) (DenF.mono e t)
end
theorem DenL.length : ∀ {vs : List V} {ds : List D}, DenL K ca H vs ds → vs.length = ds.length
  | _, _, .nil => rfl
  | _, _, .cons _ t => congrArg (· + 1) (DenL.length t)
theorem DenL.append : ∀ {vs ws : List V} {ds es : List D}, DenL K ca H vs ds → DenL K ca H ws es → DenL K ca H (vs ++ ws) (ds ++ es)
  | _, _, _, _, .nil, s => s
  | _, _, _, _, .cons h t, s => .cons h (DenL.append t s)
theorem DenL.get : ∀ {vs : List V} {ds : List D} {i : Nat} {d : D}, DenL K ca H vs ds → ds[i]? = some d → ∃ v, vs[i]? = some v ∧ Den K ca H v d
  | _, _, _, _, .nil, e => by simp at e
  | _, _, 0, _, .cons h _, e => by simp at e; subst e; exact ⟨_, rfl, h⟩
  | _, _, i + 1, d, .cons _ t, e => by
    obtain ⟨v, h1, h2⟩ := DenL.get (i := i) (d := d) t (by simpa using e)
    exact ⟨v, by simpa using h1, h2⟩
theorem DenL.set {v : V} {d : D} (h : Den K ca H v d) : ∀ {vs : List V} {ds : List D} (i : Nat), DenL K ca H vs ds → DenL K ca H (vs.set i v) (ds.set i d)
  | _, _, _, .nil => .nil
  | _, _, 0, .cons _ t => .cons h t
  | _, _, i + 1, .cons q t => .cons q (DenL.set h i t)
theorem DenL.take : ∀ {vs : List V} {ds : List D} (n : Nat), DenL K ca H vs ds → DenL K ca H (vs.take n) (ds.take n)
  | _, _, 0, _ => .nil
  | _, _, _ + 1, .nil => .nil
  | _, _, n + 1, .cons h t => .cons h (DenL.take n t)
theorem DenL.drop : ∀ {vs : List V} {ds : List D} (n : Nat), DenL K ca H vs ds → DenL K ca H (vs.drop n) (ds.drop n)
  | _, _, 0, h => h
  | _, _, _ + 1, .nil => .nil
  | _, _, n + 1, .cons _ t => DenL.drop n t
theorem DenF.lookup {f : Str} {d : D} : ∀ {vs : List (Str × V)} {ds : List (Str × D)}, DenF K ca H vs ds → ds.lookup f = some d → ∃ v, vs.lookup f = some v ∧ Den K ca H v d
  | _, _, .nil, e => by cases e
  | _, _, .cons (f := g) h t, e => by
    simp only [List.lookup] at e ⊢
    cases q : (f == g) with
    | true => rw [q] at e; cases e; exact ⟨_, rfl, h⟩
    | false => rw [q] at e; exact DenF.lookup t e
theorem DenL.ints : ∀ {ns : List Int} {vs : List V}, DenL K ca H vs (ns.map D.int) → vs = ns.map V.int
  | [], _, h => by cases h; rfl
  | n :: ns, _, h => by
    cases h with
    | cons h t =>
      cases h
      rw [DenL.ints t]
      rfl
theorem DenL.of_ints : ∀ (ns : List Int), DenL K ca H (ns.map V.int) (ns.map D.int)
  | [] => .nil
  | n :: ns => .cons (.int n) (DenL.of_ints ns)
theorem DenL.bls : ∀ {ns : List Bool} {vs : List V}, DenL K ca H vs (ns.map D.bl) → vs = ns.map V.bl
  | [], _, h => by cases h; rfl
  | n :: ns, _, h => by
    cases h with
    | cons h t =>
      cases h
      rw [DenL.bls t]
      rfl
end

/-! ### growing heaps -/
structure Grow (G H G' H' : Hp) : Prop where
  g : Same G G'
  h : Same H H'
  gh : Same G' H'
  n : ∀ p, H p ≠ none → G' p = G p
theorem Grow.refl {G H : Hp} (e : Same G H) : Grow G H G H := ⟨Same.refl _, Same.refl _, e, fun _ _ => rfl⟩
theorem Grow.trans {G H G1 H1 G2 H2 : Hp} (a : Grow G H G1 H1) (b : Grow G1 H1 G2 H2) : Grow G H G2 H2 :=
  ⟨a.g.trans b.g, a.h.trans b.h, b.gh, fun p hp => (b.n p (fun z => by
    cases q : H p with
    | none => exact hp q
    | some o => rw [a.h p o q] at z; cases z)).trans (a.n p hp)⟩
theorem same_upd {H : Hp} {p : Addr} {o : HO} (h : H p = none) : Same H (upd H p o) := fun b x e => by
  rw [upd_ne (ne_of_none e h)]
  exact e
theorem Grow.alloc {G H : Hp} {p : Addr} {o : HO} (e : Same G H) (h : H p = none) : Grow G H (upd G p o) (upd H p o) := by
  have hg : G p = none := Same.free e h
  refine ⟨same_upd hg, same_upd h, fun b u q => ?_, fun b hb => ?_⟩
  · by_cases z : b = p
    · subst z; rw [upd_same] at q ⊢; exact q
    · rw [upd_ne z] at q ⊢; exact e _ _ q
  · exact upd_ne fun z => hb (z ▸ h)
theorem Grow.allocO {G H : Hp} {p : Addr} {o : HO} (e : Same G H) (h : H p = none) : Grow G H G (upd H p o) :=
  ⟨Same.refl _, same_upd h, e.trans (same_upd h), fun _ _ => rfl⟩

/-! ### slots -/
inductive Sl where
  | un | fr (d : D) | ow (ds : List D)
  | xc (a : Addr) (d : Option Addr) (fs : List (Str × D))
  | ln (ds : List D)
  | nw (a : Addr) (C : Str) (fs : List (Str × D))
  | dk (kvs : List (Int × V))
  | op (o : Option (List D)) (d : D)
section
variable (K : PySem.W.Frag) (ca : Str → Addr)
structure Bs where
  G0 : Hp
  H0 : Hp
def SlOk (B : Bs) (G H : Hp) (own : Addr → Option Nat) (σi : Option (Option V)) (i : Nat) : Sl → Prop
  | .un => True
  | .fr d => ∃ v, σi = some (some v) ∧ Den K ca G v d
  | .ow ds => ∃ p vs, σi = some (some (.ref p)) ∧ own p = some i ∧ H p = some (.lst vs) ∧ DenL K ca G vs ds
  | .nw p C fs => σi = some (some (.ref p)) ∧ own p = some i ∧ ∃ dx vs, H p = some (.ins (ca C) dx vs) ∧ DenF K ca G vs fs
  | .xc a d fs => σi = some (some (.ref a)) ∧ (fs = [] ∨ ∃ dd vs, d = some dd ∧ H dd = some (.xd vs) ∧ DenF K ca G vs fs)
  | .ln ds => ∃ p vs, σi = some (some (.ref p)) ∧ B.H0 p = some (.lst vs) ∧ DenL K ca G vs ds
  | .dk kvs => ∃ p, σi = some (some (.ref p)) ∧ own p = some i ∧ H p = some (.dK (kvs.map fun kv => (Sum.inl kv.1, kv.2)))
  | .op o d => ∃ t w u, σi = some (some (.ref t)) ∧ SqT K G t [w, u] ∧ Den K ca G u d ∧ ∀ ds, o = some ds → ∃ p vs, w = .ref p ∧ own p = some i ∧ H p = some (.lst vs) ∧ DenL K ca G vs ds
structure Ok (B : Bs) (G H : Hp) (own : Addr → Option Nat) (σ : L2.St) (S : List Sl) : Prop where
  ln : S.length ≤ σ.length
  gh : Same G H
  g0 : Same B.G0 G
  h0 : Same B.H0 H
  gn : ∀ p, B.H0 p ≠ none → G p = B.G0 p
  ow : ∀ p i, own p = some i → B.H0 p = none ∧ G p = none ∧ H p ≠ none
  sl : ∀ i s, S[i]? = some s → SlOk K ca B G H own σ[i]? i s
end
section
variable {K : PySem.W.Frag} {ca : Str → Addr} {B : Bs} {G H G' H' : Hp} {own : Addr → Option Nat} {σ : L2.St} {S : List Sl}
theorem Ok.grow (k : Ok K ca B G H own σ S) (g : Grow G H G' H') : Ok K ca B G' H' own σ S := by
  refine ⟨k.ln, g.gh, k.g0.trans g.g, k.h0.trans g.h, fun p hp => ?_, fun p i e => ?_, fun i s e => ?_⟩
  · have hH : H p ≠ none := fun z => by
      cases q : B.H0 p with
      | none => exact hp q
      | some o => rw [k.h0 p o q] at z; cases z
    exact (g.n p hH).trans (k.gn p hp)
  · obtain ⟨a, b, c⟩ := k.ow p i e
    refine ⟨a, (g.n p c).trans b, fun z => ?_⟩
    cases q : H p with
    | none => exact c q
    | some o => rw [g.h p o q] at z; cases z
  · have q := k.sl i s e
    cases s with
    | un => trivial
    | fr d => obtain ⟨v, h1, h2⟩ := q; exact ⟨v, h1, h2.mono g.g⟩
    | ln ds => obtain ⟨p, vs, h1, h2, h3⟩ := q; exact ⟨p, vs, h1, h2, h3.mono g.g⟩
    | ow ds => obtain ⟨p, vs, h1, h2, h3, h4⟩ := q; exact ⟨p, vs, h1, h2, g.h _ _ h3, h4.mono g.g⟩
    | nw p C fs => obtain ⟨h1, h2, dx, vs, h3, h4⟩ := q; exact ⟨h1, h2, dx, vs, g.h _ _ h3, h4.mono g.g⟩
    | dk kvs => obtain ⟨p, h1, h2, h3⟩ := q; exact ⟨p, h1, h2, g.h _ _ h3⟩
    | op o d =>
      obtain ⟨t, w, u, h1, h2, h3, h4⟩ := q
      refine ⟨t, w, u, h1, same_seqT g.g h2, h3.mono g.g, fun ds e => ?_⟩
      obtain ⟨p, vs, e1, e2, e3, e4⟩ := h4 ds e
      exact ⟨p, vs, e1, e2, g.h _ _ e3, e4.mono g.g⟩
    | xc a d fs =>
      obtain ⟨h1, h2⟩ := q
      rcases h2 with h2 | ⟨dd, vs, h2, h3, h4⟩
      · exact ⟨h1, .inl h2⟩
      · exact ⟨h1, .inr ⟨dd, vs, h2, g.h _ _ h3, h4.mono g.g⟩⟩
theorem Ok.base (k : Ok K ca B G H own σ S) : Grow B.G0 B.H0 G H := ⟨k.g0, k.h0, k.gh, k.gn⟩
/-- a slot is stored, its value frozen -/
theorem Ok.setF {i : Nat} {v : V} {d : D} (k : Ok K ca B G H own σ S) (h : Den K ca G v d) : Ok K ca B G H own (σ.set i (some v)) (S.set i (.fr d)) := by
  refine ⟨by simpa using k.ln, k.gh, k.g0, k.h0, k.gn, k.ow, fun j s e => ?_⟩
  by_cases hj : j = i
  · subst hj
    have hl : j < S.length := by
      by_cases hl : j < S.length
      · exact hl
      · rw [List.getElem?_eq_none (by simpa using hl)] at e; cases e
    rw [List.getElem?_set_self hl] at e
    cases e
    exact ⟨v, List.getElem?_set_self (Nat.lt_of_lt_of_le hl k.ln), h⟩
  · rw [List.getElem?_set_ne (Ne.symm hj)] at e
    rw [List.getElem?_set_ne (Ne.symm hj)]
    exact k.sl j s e
/-- a slot is stored, its value a new list of its own -/
theorem Ok.setO {i : Nat} {p : Addr} {vs : List V} {ds : List D} (k : Ok K ca B G H own σ S) (hp : H p = some (.lst vs)) (hn : B.H0 p = none) (hg : G p = none) (ho : own p = none) (h : DenL K ca G vs ds) :
    Ok K ca B G H (fun b => if b = p then some i else if own b = some i then none else own b) (σ.set i (some (.ref p))) (S.set i (.ow ds)) := by
  refine ⟨by simpa using k.ln, k.gh, k.g0, k.h0, k.gn, fun b j e => ?_, fun j s e => ?_⟩
  · by_cases hb : b = p
    · subst hb; exact ⟨hn, hg, by rw [hp]; exact fun z => by cases z⟩
    · simp only [if_neg hb] at e
      split at e
      · cases e
      · exact k.ow b j e
  · by_cases hj : j = i
    · subst hj
      have hl : j < S.length := by
        by_cases hl : j < S.length
        · exact hl
        · rw [List.getElem?_eq_none (by simpa using hl)] at e; cases e
      rw [List.getElem?_set_self hl] at e
      cases e
      exact ⟨p, vs, List.getElem?_set_self (Nat.lt_of_lt_of_le hl k.ln), by simp, hp, h⟩
    · rw [List.getElem?_set_ne (Ne.symm hj)] at e
      rw [List.getElem?_set_ne (Ne.symm hj)]
      have q := k.sl j s e
      cases s with
      | un => trivial
      | xc a d fs => exact q
      | fr d => exact q
      | ln ds => exact q
      | nw q1 C fs =>
        obtain ⟨h1, h2, h3⟩ := q
        refine ⟨h1, ?_, h3⟩
        have n1 : q1 ≠ p := fun z => by rw [z, ho] at h2; cases h2
        simp only [if_neg n1]
        rw [if_neg]
        · exact h2
        · rw [h2]; exact fun z => hj (Option.some.inj z)
      | ow es =>
        obtain ⟨q1, ws, h1, h2, h3, h4⟩ := q
        refine ⟨q1, ws, h1, ?_, h3, h4⟩
        have n1 : q1 ≠ p := fun z => by rw [z, ho] at h2; cases h2
        simp only [if_neg n1]
        rw [if_neg]
        · exact h2
        · rw [h2]; exact fun z => hj (Option.some.inj z)
      | dk kvs =>
        obtain ⟨q1, h1, h2, h3⟩ := q
        refine ⟨q1, h1, ?_, h3⟩
        have n1 : q1 ≠ p := fun z => by rw [z, ho] at h2; cases h2
        simp only [if_neg n1]
        rw [if_neg]
        · exact h2
        · rw [h2]; exact fun z => hj (Option.some.inj z)
      | op o d =>
        obtain ⟨t, w, u, h1, h2, h3, h4⟩ := q
        refine ⟨t, w, u, h1, h2, h3, fun ds e => ?_⟩
        obtain ⟨q1, ws, e1, e2, e3, e4⟩ := h4 ds e
        refine ⟨q1, ws, e1, ?_, e3, e4⟩
        have n1 : q1 ≠ p := fun z => by rw [z, ho] at e2; cases e2
        simp only [if_neg n1]
        rw [if_neg]
        · exact e2
        · rw [e2]; exact fun z => hj (Option.some.inj z)
/-- a slot is stored, its value a new dict of its own -/
theorem Ok.setK {i : Nat} {p : Addr} {kvs : List (Int × V)} (k : Ok K ca B G H own σ S) (hp : H p = some (.dK (kvs.map fun kv => (Sum.inl kv.1, kv.2)))) (hn : B.H0 p = none) (hg : G p = none) (ho : own p = none) :
    Ok K ca B G H (fun b => if b = p then some i else if own b = some i then none else own b) (σ.set i (some (.ref p))) (S.set i (.dk kvs)) := by
  refine ⟨by simpa using k.ln, k.gh, k.g0, k.h0, k.gn, fun b j e => ?_, fun j s e => ?_⟩
  · by_cases hb : b = p
    · subst hb; exact ⟨hn, hg, by rw [hp]; exact fun z => by cases z⟩
    · simp only [if_neg hb] at e
      split at e
      · cases e
      · exact k.ow b j e
  · by_cases hj : j = i
    · subst hj
      have hl : j < S.length := by
        by_cases hl : j < S.length
        · exact hl
        · rw [List.getElem?_eq_none (by simpa using hl)] at e; cases e
      rw [List.getElem?_set_self hl] at e
      cases e
      exact ⟨p, List.getElem?_set_self (Nat.lt_of_lt_of_le hl k.ln), by simp, hp⟩
    · rw [List.getElem?_set_ne (Ne.symm hj)] at e
      rw [List.getElem?_set_ne (Ne.symm hj)]
      have q := k.sl j s e
      cases s with
      | un => trivial
      | xc a d fs => exact q
      | fr d => exact q
      | ln ds => exact q
      | nw q1 C fs =>
        obtain ⟨h1, h2, h3⟩ := q
        refine ⟨h1, ?_, h3⟩
        have n1 : q1 ≠ p := fun z => by rw [z, ho] at h2; cases h2
        simp only [if_neg n1]
        rw [if_neg]
        · exact h2
        · rw [h2]; exact fun z => hj (Option.some.inj z)
      | ow es =>
        obtain ⟨q1, ws, h1, h2, h3, h4⟩ := q
        refine ⟨q1, ws, h1, ?_, h3, h4⟩
        have n1 : q1 ≠ p := fun z => by rw [z, ho] at h2; cases h2
        simp only [if_neg n1]
        rw [if_neg]
        · exact h2
        · rw [h2]; exact fun z => hj (Option.some.inj z)
      | dk kvs =>
        obtain ⟨q1, h1, h2, h3⟩ := q
        refine ⟨q1, h1, ?_, h3⟩
        have n1 : q1 ≠ p := fun z => by rw [z, ho] at h2; cases h2
        simp only [if_neg n1]
        rw [if_neg]
        · exact h2
        · rw [h2]; exact fun z => hj (Option.some.inj z)
      | op o d =>
        obtain ⟨t, w, u, h1, h2, h3, h4⟩ := q
        refine ⟨t, w, u, h1, h2, h3, fun ds e => ?_⟩
        obtain ⟨q1, ws, e1, e2, e3, e4⟩ := h4 ds e
        refine ⟨q1, ws, e1, ?_, e3, e4⟩
        have n1 : q1 ≠ p := fun z => by rw [z, ho] at e2; cases e2
        simp only [if_neg n1]
        rw [if_neg]
        · exact e2
        · rw [e2]; exact fun z => hj (Option.some.inj z)
/-- a list of a slot's own is changed -/
theorem Ok.mut {i : Nat} {p : Addr} {vs vs' : List V} {ds : List D} (k : Ok K ca B G H own σ S) (hl' : H p = some (.lst vs')) (ho : own p = some i) (h : DenL K ca G vs ds) (hs : σ[i]? = some (some (.ref p))) :
    Ok K ca B G (upd H p (.lst vs)) own σ (S.set i (.ow ds)) := by
  obtain ⟨a, b, c⟩ := k.ow p i ho
  have hx : ∀ (dd : Addr) (ws : List (Str × V)), H dd = some (.xd ws) → dd ≠ p := fun dd ws e z => by rw [z, hl'] at e; cases e
  refine ⟨by simpa using k.ln, fun b' o e => ?_, k.g0, fun b' o e => ?_, k.gn, fun b' j e => ?_, fun j s e => ?_⟩
  · have : b' ≠ p := fun z => by rw [z, b] at e; cases e
    rw [upd_ne this]; exact k.gh _ _ e
  · have : b' ≠ p := fun z => by rw [z, a] at e; cases e
    rw [upd_ne this]; exact k.h0 _ _ e
  · obtain ⟨a', b'', c'⟩ := k.ow b' j e
    refine ⟨a', b'', fun z => ?_⟩
    unfold upd at z; split at z
    · cases z
    · exact c' z
  · by_cases hj : j = i
    · subst hj
      have hl : j < S.length := by
        by_cases hl : j < S.length
        · exact hl
        · rw [List.getElem?_eq_none (by simpa using hl)] at e; cases e
      rw [List.getElem?_set_self hl] at e
      cases e
      exact ⟨p, vs, hs, ho, upd_same, h⟩
    · rw [List.getElem?_set_ne (Ne.symm hj)] at e
      have q := k.sl j s e
      cases s with
      | un => trivial
      | xc a d fs =>
        obtain ⟨h1, h2⟩ := q
        rcases h2 with h2 | ⟨dd, ws, h2, h3, h4⟩
        · exact ⟨h1, .inl h2⟩
        · refine ⟨h1, .inr ⟨dd, ws, h2, ?_, h4⟩⟩
          rw [upd_ne (hx dd ws h3)]; exact h3
      | fr d => exact q
      | ln ds => exact q
      | nw q1 C fs =>
        obtain ⟨h1, h2, dx, ws, h3, h4⟩ := q
        refine ⟨h1, h2, dx, ws, ?_, h4⟩
        have n1 : q1 ≠ p := fun z => by rw [z, ho] at h2; exact hj (Option.some.inj h2).symm
        rw [upd_ne n1]; exact h3
      | ow es =>
        obtain ⟨q1, ws, h1, h2, h3, h4⟩ := q
        refine ⟨q1, ws, h1, h2, ?_, h4⟩
        have n1 : q1 ≠ p := fun z => by rw [z, ho] at h2; exact hj (Option.some.inj h2).symm
        rw [upd_ne n1]; exact h3
      | dk kvs =>
        obtain ⟨q1, h1, h2, h3⟩ := q
        refine ⟨q1, h1, h2, ?_⟩
        have n1 : q1 ≠ p := fun z => by rw [z, ho] at h2; exact hj (Option.some.inj h2).symm
        rw [upd_ne n1]; exact h3
      | op o d =>
        obtain ⟨t, w, u, h1, h2, h3, h4⟩ := q
        refine ⟨t, w, u, h1, h2, h3, fun ds e => ?_⟩
        obtain ⟨q1, ws, e1, e2, e3, e4⟩ := h4 ds e
        refine ⟨q1, ws, e1, e2, ?_, e4⟩
        have n1 : q1 ≠ p := fun z => by rw [z, ho] at e2; exact hj (Option.some.inj e2).symm
        rw [upd_ne n1]; exact e3
/-- a dict of a slot's own is changed -/
theorem Ok.mutK {i : Nat} {p : Addr} {kvs : List (Int × V)} {vs' : List (Key × V)} (k : Ok K ca B G H own σ S) (hl' : H p = some (.dK vs')) (ho : own p = some i) (hs : σ[i]? = some (some (.ref p))) :
    Ok K ca B G (upd H p (.dK (kvs.map fun kv => (Sum.inl kv.1, kv.2)))) own σ (S.set i (.dk kvs)) := by
  obtain ⟨a, b, c⟩ := k.ow p i ho
  have hx : ∀ (dd : Addr) (ws : List (Str × V)), H dd = some (.xd ws) → dd ≠ p := fun dd ws e z => by rw [z, hl'] at e; cases e
  refine ⟨by simpa using k.ln, fun b' o e => ?_, k.g0, fun b' o e => ?_, k.gn, fun b' j e => ?_, fun j s e => ?_⟩
  · have : b' ≠ p := fun z => by rw [z, b] at e; cases e
    rw [upd_ne this]; exact k.gh _ _ e
  · have : b' ≠ p := fun z => by rw [z, a] at e; cases e
    rw [upd_ne this]; exact k.h0 _ _ e
  · obtain ⟨a', b'', c'⟩ := k.ow b' j e
    refine ⟨a', b'', fun z => ?_⟩
    unfold upd at z; split at z
    · cases z
    · exact c' z
  · by_cases hj : j = i
    · subst hj
      have hl : j < S.length := by
        by_cases hl : j < S.length
        · exact hl
        · rw [List.getElem?_eq_none (by simpa using hl)] at e; cases e
      rw [List.getElem?_set_self hl] at e
      cases e
      exact ⟨p, hs, ho, upd_same⟩
    · rw [List.getElem?_set_ne (Ne.symm hj)] at e
      have q := k.sl j s e
      cases s with
      | un => trivial
      | xc a d fs =>
        obtain ⟨h1, h2⟩ := q
        rcases h2 with h2 | ⟨dd, ws, h2, h3, h4⟩
        · exact ⟨h1, .inl h2⟩
        · refine ⟨h1, .inr ⟨dd, ws, h2, ?_, h4⟩⟩
          rw [upd_ne (hx dd ws h3)]; exact h3
      | fr d => exact q
      | ln ds => exact q
      | nw q1 C fs =>
        obtain ⟨h1, h2, dx, ws, h3, h4⟩ := q
        refine ⟨h1, h2, dx, ws, ?_, h4⟩
        have n1 : q1 ≠ p := fun z => by rw [z, ho] at h2; exact hj (Option.some.inj h2).symm
        rw [upd_ne n1]; exact h3
      | ow es =>
        obtain ⟨q1, ws, h1, h2, h3, h4⟩ := q
        refine ⟨q1, ws, h1, h2, ?_, h4⟩
        have n1 : q1 ≠ p := fun z => by rw [z, ho] at h2; exact hj (Option.some.inj h2).symm
        rw [upd_ne n1]; exact h3
      | dk kvs =>
        obtain ⟨q1, h1, h2, h3⟩ := q
        refine ⟨q1, h1, h2, ?_⟩
        have n1 : q1 ≠ p := fun z => by rw [z, ho] at h2; exact hj (Option.some.inj h2).symm
        rw [upd_ne n1]; exact h3
      | op o d =>
        obtain ⟨t, w, u, h1, h2, h3, h4⟩ := q
        refine ⟨t, w, u, h1, h2, h3, fun ds e => ?_⟩
        obtain ⟨q1, ws, e1, e2, e3, e4⟩ := h4 ds e
        refine ⟨q1, ws, e1, e2, ?_, e4⟩
        have n1 : q1 ≠ p := fun z => by rw [z, ho] at e2; exact hj (Option.some.inj e2).symm
        rw [upd_ne n1]; exact e3
/-- an object of a slot's own is changed -/
theorem Ok.mutN {i : Nat} {p dx dy : Addr} {Cn : Str} {vs vs' : List (Str × V)} {fs : List (Str × D)} (k : Ok K ca B G H own σ S) (hl' : H p = some (.ins (ca Cn) dy vs')) (ho : own p = some i) (h : DenF K ca G vs fs) (hs : σ[i]? = some (some (.ref p))) :
    Ok K ca B G (upd H p (.ins (ca Cn) dx vs)) own σ (S.set i (.nw p Cn fs)) := by
  obtain ⟨a, b, c⟩ := k.ow p i ho
  have hx : ∀ (dd : Addr) (ws : List (Str × V)), H dd = some (.xd ws) → dd ≠ p := fun dd ws e z => by rw [z, hl'] at e; cases e
  refine ⟨by simpa using k.ln, fun b' o e => ?_, k.g0, fun b' o e => ?_, k.gn, fun b' j e => ?_, fun j s e => ?_⟩
  · have : b' ≠ p := fun z => by rw [z, b] at e; cases e
    rw [upd_ne this]; exact k.gh _ _ e
  · have : b' ≠ p := fun z => by rw [z, a] at e; cases e
    rw [upd_ne this]; exact k.h0 _ _ e
  · obtain ⟨a', b'', c'⟩ := k.ow b' j e
    refine ⟨a', b'', fun z => ?_⟩
    unfold upd at z; split at z
    · cases z
    · exact c' z
  · by_cases hj : j = i
    · subst hj
      have hl : j < S.length := by
        by_cases hl : j < S.length
        · exact hl
        · rw [List.getElem?_eq_none (by simpa using hl)] at e; cases e
      rw [List.getElem?_set_self hl] at e
      cases e
      exact ⟨hs, ho, dx, vs, upd_same, h⟩
    · rw [List.getElem?_set_ne (Ne.symm hj)] at e
      have q := k.sl j s e
      have ne : ∀ {q1 : Addr}, own q1 = some j → q1 ≠ p := fun {q1} r z => by rw [z, ho] at r; exact hj (Option.some.inj r).symm
      cases s with
      | un => trivial
      | xc a d fs =>
        obtain ⟨h1, h2⟩ := q
        rcases h2 with h2 | ⟨dd, ws, h2, h3, h4⟩
        · exact ⟨h1, .inl h2⟩
        · refine ⟨h1, .inr ⟨dd, ws, h2, ?_, h4⟩⟩
          rw [upd_ne (hx dd ws h3)]; exact h3
      | fr d => exact q
      | ln ds => exact q
      | nw q1 C fs =>
        obtain ⟨h1, h2, dx, ws, h3, h4⟩ := q
        exact ⟨h1, h2, dx, ws, by rw [upd_ne (ne h2)]; exact h3, h4⟩
      | ow es =>
        obtain ⟨q1, ws, h1, h2, h3, h4⟩ := q
        exact ⟨q1, ws, h1, h2, by rw [upd_ne (ne h2)]; exact h3, h4⟩
      | dk kvs =>
        obtain ⟨q1, h1, h2, h3⟩ := q
        exact ⟨q1, h1, h2, by rw [upd_ne (ne h2)]; exact h3⟩
      | op o d =>
        obtain ⟨t, w, u, h1, h2, h3, h4⟩ := q
        refine ⟨t, w, u, h1, h2, h3, fun ds e => ?_⟩
        obtain ⟨q1, ws, e1, e2, e3, e4⟩ := h4 ds e
        exact ⟨q1, ws, e1, e2, by rw [upd_ne (ne e2)]; exact e3, e4⟩
/-- a list of a slot's own is frozen -/
theorem Ok.frz {i : Nat} {ds : List D} (k : Ok K ca B G H own σ S) (hs : S[i]? = some (.ow ds)) :
    ∃ G' own', Same G G' ∧ Ok K ca B G' H own' σ (S.set i (.fr (.lst ds))) := by
  obtain ⟨p, vs, h1, h2, h3, h4⟩ := k.sl i _ hs
  obtain ⟨a, b, c⟩ := k.ow p i h2
  have sg : Same G (upd G p (.lst vs)) := same_upd b
  refine ⟨upd G p (.lst vs), fun q => if q = p then none else own q, sg, ⟨by simpa using k.ln, fun q o e => ?_, k.g0.trans sg, k.h0, fun q hq => ?_, fun q j e => ?_, fun j s e => ?_⟩⟩
  · by_cases hb : q = p
    · subst hb; rw [upd_same] at e; cases e; exact h3
    · rw [upd_ne hb] at e; exact k.gh _ _ e
  · have : q ≠ p := fun z => hq (z ▸ a)
    rw [upd_ne this]; exact k.gn q hq
  · split at e
    · cases e
    · rename_i hb
      obtain ⟨x, y, z⟩ := k.ow q j e
      exact ⟨x, by rw [upd_ne hb]; exact y, z⟩
  · by_cases hj : j = i
    · subst hj
      have hl : j < S.length := (List.getElem?_eq_some_iff.mp hs).1
      rw [List.getElem?_set_self hl] at e
      cases e
      exact ⟨_, h1, .lst upd_same (h4.mono sg)⟩
    · rw [List.getElem?_set_ne (Ne.symm hj)] at e
      have q := k.sl j s e
      cases s with
      | un => trivial
      | fr d => obtain ⟨v, r1, r2⟩ := q; exact ⟨v, r1, r2.mono sg⟩
      | ln ds => obtain ⟨q1, ws, r1, r2, r3⟩ := q; exact ⟨q1, ws, r1, r2, r3.mono sg⟩
      | xc a d fs =>
        obtain ⟨r1, r2⟩ := q
        rcases r2 with r2 | ⟨dd, ws, r2, r3, r4⟩
        · exact ⟨r1, .inl r2⟩
        · exact ⟨r1, .inr ⟨dd, ws, r2, r3, r4.mono sg⟩⟩
      | nw q1 C fs =>
        obtain ⟨r1, r2, dx, ws, r3, r4⟩ := q
        refine ⟨r1, ?_, dx, ws, r3, r4.mono sg⟩
        have n1 : q1 ≠ p := fun z => by rw [z, h2] at r2; exact hj (Option.some.inj r2).symm
        show (if q1 = p then none else own q1) = some j
        rw [if_neg n1]; exact r2
      | ow es =>
        obtain ⟨q1, ws, r1, r2, r3, r4⟩ := q
        refine ⟨q1, ws, r1, ?_, r3, r4.mono sg⟩
        have n1 : q1 ≠ p := fun z => by rw [z, h2] at r2; exact hj (Option.some.inj r2).symm
        show (if q1 = p then none else own q1) = some j
        rw [if_neg n1]; exact r2
      | dk kvs =>
        obtain ⟨q1, r1, r2, r3⟩ := q
        refine ⟨q1, r1, ?_, r3⟩
        have n1 : q1 ≠ p := fun z => by rw [z, h2] at r2; exact hj (Option.some.inj r2).symm
        show (if q1 = p then none else own q1) = some j
        rw [if_neg n1]; exact r2
      | op o d =>
        obtain ⟨t, w, u, r1, r2, r3, r4⟩ := q
        refine ⟨t, w, u, r1, same_seqT sg r2, r3.mono sg, fun ds e => ?_⟩
        obtain ⟨q1, ws, e1, e2, e3, e4⟩ := r4 ds e
        refine ⟨q1, ws, e1, ?_, e3, e4.mono sg⟩
        have n1 : q1 ≠ p := fun z => by rw [z, h2] at e2; exact hj (Option.some.inj e2).symm
        show (if q1 = p then none else own q1) = some j
        rw [if_neg n1]; exact e2
/-- the list in a pair of a slot's own is frozen -/
theorem Ok.frzP {i : Nat} {ds : List D} {d : D} (k : Ok K ca B G H own σ S) (hs : S[i]? = some (.op (some ds) d)) :
    ∃ G' own', Same G G' ∧ Ok K ca B G' H own' σ (S.set i (.fr (.tup [.lst ds, d]))) := by
  obtain ⟨t0, w0, u0, h1, hT, hU, hL⟩ := k.sl i _ hs
  obtain ⟨p, vs, rfl, h2, h3, h4⟩ := hL ds rfl
  obtain ⟨a, b, c⟩ := k.ow p i h2
  have sg : Same G (upd G p (.lst vs)) := same_upd b
  refine ⟨upd G p (.lst vs), fun q => if q = p then none else own q, sg, ⟨by simpa using k.ln, fun q o e => ?_, k.g0.trans sg, k.h0, fun q hq => ?_, fun q j e => ?_, fun j s e => ?_⟩⟩
  · by_cases hb : q = p
    · subst hb; rw [upd_same] at e; cases e; exact h3
    · rw [upd_ne hb] at e; exact k.gh _ _ e
  · have : q ≠ p := fun z => hq (z ▸ a)
    rw [upd_ne this]; exact k.gn q hq
  · split at e
    · cases e
    · rename_i hb
      obtain ⟨x, y, z⟩ := k.ow q j e
      exact ⟨x, by rw [upd_ne hb]; exact y, z⟩
  · by_cases hj : j = i
    · subst hj
      have hl : j < S.length := (List.getElem?_eq_some_iff.mp hs).1
      rw [List.getElem?_set_self hl] at e
      cases e
      exact ⟨_, h1, .tup (same_seqT sg hT) (.cons (.lst upd_same (h4.mono sg)) (.cons (hU.mono sg) .nil))⟩
    · rw [List.getElem?_set_ne (Ne.symm hj)] at e
      have q := k.sl j s e
      cases s with
      | un => trivial
      | fr d => obtain ⟨v, r1, r2⟩ := q; exact ⟨v, r1, r2.mono sg⟩
      | ln ds => obtain ⟨q1, ws, r1, r2, r3⟩ := q; exact ⟨q1, ws, r1, r2, r3.mono sg⟩
      | xc a d fs =>
        obtain ⟨r1, r2⟩ := q
        rcases r2 with r2 | ⟨dd, ws, r2, r3, r4⟩
        · exact ⟨r1, .inl r2⟩
        · exact ⟨r1, .inr ⟨dd, ws, r2, r3, r4.mono sg⟩⟩
      | nw q1 C fs =>
        obtain ⟨r1, r2, dx, ws, r3, r4⟩ := q
        refine ⟨r1, ?_, dx, ws, r3, r4.mono sg⟩
        have n1 : q1 ≠ p := fun z => by rw [z, h2] at r2; exact hj (Option.some.inj r2).symm
        show (if q1 = p then none else own q1) = some j
        rw [if_neg n1]; exact r2
      | ow es =>
        obtain ⟨q1, ws, r1, r2, r3, r4⟩ := q
        refine ⟨q1, ws, r1, ?_, r3, r4.mono sg⟩
        have n1 : q1 ≠ p := fun z => by rw [z, h2] at r2; exact hj (Option.some.inj r2).symm
        show (if q1 = p then none else own q1) = some j
        rw [if_neg n1]; exact r2
      | dk kvs =>
        obtain ⟨q1, r1, r2, r3⟩ := q
        refine ⟨q1, r1, ?_, r3⟩
        have n1 : q1 ≠ p := fun z => by rw [z, h2] at r2; exact hj (Option.some.inj r2).symm
        show (if q1 = p then none else own q1) = some j
        rw [if_neg n1]; exact r2
      | op o d =>
        obtain ⟨t, w, u, r1, r2, r3, r4⟩ := q
        refine ⟨t, w, u, r1, same_seqT sg r2, r3.mono sg, fun ds e => ?_⟩
        obtain ⟨q1, ws, e1, e2, e3, e4⟩ := r4 ds e
        refine ⟨q1, ws, e1, ?_, e3, e4.mono sg⟩
        have n1 : q1 ≠ p := fun z => by rw [z, h2] at e2; exact hj (Option.some.inj e2).symm
        show (if q1 = p then none else own q1) = some j
        rw [if_neg n1]; exact e2
/-- a slot is stored, its value a pair with a new list of its own -/
theorem Ok.setP {i : Nat} {p t : Addr} {u : V} {d : D} {vs : List V} {ds : List D} (k : Ok K ca B G H own σ S) (ht : SqT K G t [.ref p, u]) (hu : Den K ca G u d) (hp : H p = some (.lst vs)) (hn : B.H0 p = none) (hg : G p = none) (ho : own p = none) (h : DenL K ca G vs ds) :
    Ok K ca B G H (fun b => if b = p then some i else if own b = some i then none else own b) (σ.set i (some (.ref t))) (S.set i (.op (some ds) d)) := by
  refine ⟨by simpa using k.ln, k.gh, k.g0, k.h0, k.gn, fun b j e => ?_, fun j s e => ?_⟩
  · by_cases hb : b = p
    · subst hb; exact ⟨hn, hg, by rw [hp]; exact fun z => by cases z⟩
    · simp only [if_neg hb] at e
      split at e
      · cases e
      · exact k.ow b j e
  · by_cases hj : j = i
    · subst hj
      have hl : j < S.length := by
        by_cases hl : j < S.length
        · exact hl
        · rw [List.getElem?_eq_none (by simpa using hl)] at e; cases e
      rw [List.getElem?_set_self hl] at e
      cases e
      exact ⟨t, .ref p, u, List.getElem?_set_self (Nat.lt_of_lt_of_le hl k.ln), ht, hu, fun ds' e => by cases e; exact ⟨p, vs, rfl, by simp, hp, h⟩⟩
    · rw [List.getElem?_set_ne (Ne.symm hj)] at e
      rw [List.getElem?_set_ne (Ne.symm hj)]
      have q := k.sl j s e
      cases s with
      | un => trivial
      | xc a d fs => exact q
      | fr d => exact q
      | ln ds => exact q
      | nw q1 C fs =>
        obtain ⟨h1, h2, h3⟩ := q
        refine ⟨h1, ?_, h3⟩
        have n1 : q1 ≠ p := fun z => by rw [z, ho] at h2; cases h2
        simp only [if_neg n1]
        rw [if_neg]
        · exact h2
        · rw [h2]; exact fun z => hj (Option.some.inj z)
      | ow es =>
        obtain ⟨q1, ws, h1, h2, h3, h4⟩ := q
        refine ⟨q1, ws, h1, ?_, h3, h4⟩
        have n1 : q1 ≠ p := fun z => by rw [z, ho] at h2; cases h2
        simp only [if_neg n1]
        rw [if_neg]
        · exact h2
        · rw [h2]; exact fun z => hj (Option.some.inj z)
      | dk kvs =>
        obtain ⟨q1, h1, h2, h3⟩ := q
        refine ⟨q1, h1, ?_, h3⟩
        have n1 : q1 ≠ p := fun z => by rw [z, ho] at h2; cases h2
        simp only [if_neg n1]
        rw [if_neg]
        · exact h2
        · rw [h2]; exact fun z => hj (Option.some.inj z)
      | op o d =>
        obtain ⟨t, w, u, h1, h2, h3, h4⟩ := q
        refine ⟨t, w, u, h1, h2, h3, fun ds e => ?_⟩
        obtain ⟨q1, ws, e1, e2, e3, e4⟩ := h4 ds e
        refine ⟨q1, ws, e1, ?_, e3, e4⟩
        have n1 : q1 ≠ p := fun z => by rw [z, ho] at e2; cases e2
        simp only [if_neg n1]
        rw [if_neg]
        · exact e2
        · rw [e2]; exact fun z => hj (Option.some.inj z)
/-- the list of a pair goes over to another slot -/
theorem Ok.takeP {i j : Nat} {ds : List D} {d : D} {p t : Addr} {u : V} (k : Ok K ca B G H own σ S) (hs : S[i]? = some (.op (some ds) d)) (hij : i ≠ j) (h1 : σ[i]? = some (some (.ref t))) (h2 : SqT K G t [.ref p, u]) (hu : Den K ca G u d) (ho : own p = some i) (vs : List V) (hp : H p = some (.lst vs)) (h : DenL K ca G vs ds) :
    Ok K ca B G H (fun b => if b = p then some j else if own b = some j then none else own b) (σ.set j (some (.ref p))) ((S.set i (.op none d)).set j (.ow ds)) := by
  obtain ⟨a0, b0, c0⟩ := k.ow p i ho
  refine ⟨by simpa using k.ln, k.gh, k.g0, k.h0, k.gn, fun b m e => ?_, fun m s e => ?_⟩
  · by_cases hb : b = p
    · subst hb; exact ⟨a0, b0, c0⟩
    · simp only [if_neg hb] at e
      split at e
      · cases e
      · exact k.ow b m e
  · by_cases hj : m = j
    · subst hj
      have hl : m < (S.set i (.op none d)).length := by
        by_cases hl : m < (S.set i (.op none d)).length
        · exact hl
        · rw [List.getElem?_eq_none (by simpa using hl)] at e; cases e
      rw [List.getElem?_set_self hl] at e
      cases e
      rw [List.length_set] at hl
      exact ⟨p, vs, List.getElem?_set_self (Nat.lt_of_lt_of_le hl k.ln), by simp, hp, h⟩
    · rw [List.getElem?_set_ne (Ne.symm hj)] at e
      rw [List.getElem?_set_ne (Ne.symm hj)]
      by_cases hi : m = i
      · subst hi
        have hl : m < S.length := (List.getElem?_eq_some_iff.mp hs).1
        rw [List.getElem?_set_self hl] at e
        cases e
        exact ⟨t, .ref p, u, h1, h2, hu, fun ds' z => by cases z⟩
      · rw [List.getElem?_set_ne (Ne.symm hi)] at e
        have q := k.sl m s e
        have mv : ∀ {q1 : Addr}, own q1 = some m → (if q1 = p then some j else if own q1 = some j then none else own q1) = some m := fun {q1} r => by
          have n1 : q1 ≠ p := fun z => by rw [z, ho] at r; exact hi (Option.some.inj r).symm
          rw [if_neg n1, if_neg]
          · exact r
          · rw [r]; exact fun z => hj (Option.some.inj z)
        cases s with
        | un => trivial
        | xc a d fs => exact q
        | fr d => exact q
        | ln ds => exact q
        | nw q1 C fs => obtain ⟨r1, r2, r3⟩ := q; exact ⟨r1, mv r2, r3⟩
        | ow es => obtain ⟨q1, ws, r1, r2, r3, r4⟩ := q; exact ⟨q1, ws, r1, mv r2, r3, r4⟩
        | dk kvs => obtain ⟨q1, r1, r2, r3⟩ := q; exact ⟨q1, r1, mv r2, r3⟩
        | op o d =>
          obtain ⟨t', w, u', r1, r2, r3, r4⟩ := q
          refine ⟨t', w, u', r1, r2, r3, fun ds' z => ?_⟩
          obtain ⟨q1, ws, e1, e2, e3, e4⟩ := r4 ds' z
          exact ⟨q1, ws, e1, mv e2, e3, e4⟩
/-- less is said of the slots -/
def Wk (S S' : List Sl) : Prop := S'.length ≤ S.length ∧ ∀ (i : Nat) (s : Sl), S'[i]? = some s → s = .un ∨ S[i]? = some s
theorem Wk.nil {S : List Sl} : Wk S [] := ⟨Nat.zero_le _, fun i s e => by simp at e⟩
theorem Wk.refl {S : List Sl} : Wk S S := ⟨Nat.le_refl _, fun i s e => .inr e⟩
theorem Ok.weak {S' : List Sl} (k : Ok K ca B G H own σ S) (h : Wk S S') : Ok K ca B G H own σ S' := by
  refine ⟨Nat.le_trans h.1 k.ln, k.gh, k.g0, k.h0, k.gn, k.ow, fun i s e => ?_⟩
  rcases h.2 i s e with rfl | h
  · trivial
  · exact k.sl i s h
end
end DL

namespace DL
open PySem PySem.Spec PyProof.Rows L2

/-! ### encoders -/
abbrev eI : Int → D := D.int
abbrev eB : Bool → D := D.bl
abbrev eS : Str → D := D.str
abbrev eU : Unit → D := fun _ => .non
abbrev eD : D → D := id
def eL {α : Type} (e : α → D) : List α → D := fun xs => .lst (xs.map e)
def eT {α : Type} (e : α → D) : List α → D := fun xs => .tup (xs.map e)
def eO {α : Type} (e : α → D) : Option α → D := fun o => match o with | none => .non | some x => e x
def eP {α β : Type} (e : α → D) (f : β → D) : α × β → D := fun p => .tup [e p.1, f p.2]

/-! ### an exception as a callee or a body lets it out -/
def Raised (K : PySem.W.Frag) (ca : Str → Addr) (x : Ex) (G : Hp) (cls : Value) (d : Option Addr) (H : Hp) : Prop :=
  cls = .ref (ca x.cls) ∧ (x.args = [] ∨ ∃ dd vs, d = some dd ∧ H dd = some (.xd vs) ∧ DenF K ca G vs x.args)
def ErK (K : PySem.W.Frag) (ca : Str → Addr) (x : Ex) (G H : Hp) (E : XK) : Prop :=
  ∀ cls d G' H', Grow G H G' H' → Raised K ca x G' cls d H' → E cls d H'
theorem ErK.grow {K : PySem.W.Frag} {ca : Str → Addr} {x : Ex} {G H G1 H1 : Hp} {E : XK} (e : ErK K ca x G H E) (g : Grow G H G1 H1) : ErK K ca x G1 H1 E :=
  fun cls d G' H' g' r => e cls d G' H' (g.trans g') r

/-- the parts of a judgement: the classes, the wish, the entry, the slots at a raise -/
structure Jx where
  ca : Str → Addr
  W : WX
  B : Bs
  Sx : List Sl
variable {X : Cx} {J : Jx}

section
variable (X : Cx) (J : Jx)
abbrev OkX (G H : Hp) (own : Addr → Option Nat) (σ : L2.St) (S : List Sl) : Prop := Ok X.K J.ca J.B G H own σ S
/-- what is wanted behind an expression whose result is n -/
def Fin {α : Type} (enc : α → D) (n : M α) (σ : L2.St) (G H : Hp) (Q : VK) : Prop := match n with
  | .ok z => ∀ v G' H', Grow G H G' H' → Den X.K J.ca G' v (enc z) → Q v H'
  | .er x => ErK X.K J.ca x G H fun cls d H' => J.W cls d σ H'
  | .no => False
/-- .. a new list of its own -/
def FinO {α : Type} (enc : α → D) (n : M (List α)) (σ : L2.St) (G H : Hp) (Q : VK) : Prop := match n with
  | .ok z => ∀ p vs G' H', Grow G H G' H' → H p = none → H' p = some (.lst vs) → G' p = none → DenL X.K J.ca G' vs (z.map enc) → Q (.ref p) H'
  | .er x => ErK X.K J.ca x G H fun cls d H' => J.W cls d σ H'
  | .no => False
/-- lent: frozen, or a list of a slot's own -/
def DenB (G H : Hp) (_own : Addr → Option Nat) (v : V) (d : D) : Prop := Den X.K J.ca G v d ∨ ∃ p vs ds, v = .ref p ∧ d = .lst ds ∧ H p = some (.lst vs) ∧ DenL X.K J.ca G vs ds ∧ G p = none
def FinB {α : Type} (enc : α → D) (n : M α) (σ : L2.St) (own : Addr → Option Nat) (G H : Hp) (Q : VK) : Prop := match n with
  | .ok z => ∀ v G' H', Grow G H G' H' → DenB X J G' H' own v (enc z) → Q v H'
  | .er x => ErK X.K J.ca x G H fun cls d H' => J.W cls d σ H'
  | .no => False
def FinT (n : M Bool) (σ : L2.St) (G H : Hp) (Q : Bool → Hp → Prop) : Prop := match n with
  | .ok b => ∀ G' H', Grow G H G' H' → Q b H'
  | .er x => ErK X.K J.ca x G H fun cls d H' => J.W cls d σ H'
  | .no => False
def tE {α : Type} (S : List Sl) (enc : α → D) (n : M α) : TE := fun σ H Q => ∃ G own, OkX X J G H own σ S ∧ Fin X J enc n σ G H Q
def tO {α : Type} (S : List Sl) (enc : α → D) (n : M (List α)) : TE := fun σ H Q => ∃ G own, OkX X J G H own σ S ∧ FinO X J enc n σ G H Q
def tEb {α : Type} (S : List Sl) (enc : α → D) (n : M α) : TE := fun σ H Q => ∃ G own, OkX X J G H own σ S ∧ FinB X J enc n σ own G H Q
def tT (S : List Sl) (n : M Bool) : TT := fun σ H Q => ∃ G own, OkX X J G H own σ S ∧ FinT X J n σ G H Q
/-- e's value is n's, frozen | a new list | lent; a test -/
def DE {α : Type} (S : List Sl) (e : Expr) (enc : α → D) (n : M α) : Prop := PE X e (tE X J S enc n)
def DO {α : Type} (S : List Sl) (e : Expr) (enc : α → D) (n : M (List α)) : Prop := PE X e (tO X J S enc n)
def DB {α : Type} (S : List Sl) (e : Expr) (enc : α → D) (n : M α) : Prop := PE X e (tEb X J S enc n)
def DT (S : List Sl) (e : Expr) (n : M Bool) : Prop := PT X e (tT X J S n)
end

theorem pe_imp {e : Expr} {t t' : TE} (h : PE X e t) (i : ∀ σ H Q, t' σ H Q → t σ H Q) : PE X e t' := ⟨fun pins s σ H Q I q => h.run pins s σ H Q I (i σ H Q q)⟩
theorem pt_imp {e : Expr} {t t' : TT} (h : PT X e t) (i : ∀ σ H Q, t' σ H Q → t σ H Q) : PT X e t' := ⟨fun pins s σ H Q I q => h.run pins s σ H Q I (i σ H Q q)⟩
theorem pss_imp {e : List Stmt} {t t' : TS} (h : PSs X e t) (i : ∀ D σ H, t' D σ H → t D σ H) : PSs X e t' := ⟨fun pins s σ H D I q => h.run pins s σ H D I (i D σ H q)⟩
theorem ps_imp {e : Stmt} {t t' : TS} (h : PS X e t) (i : ∀ D σ H, t' D σ H → t D σ H) : PS X e t' := ⟨fun pins s σ H D I q => h.run pins s σ H D I (i D σ H q)⟩
theorem pss_ex {β : Type} {e : List Stmt} {t : β → TS} (h : ∀ b, PSs X e (t b)) : PSs X e (fun D σ H => ∃ b, t b D σ H) := ⟨fun pins s σ H D I ⟨b, q⟩ => (h b).run pins s σ H D I q⟩

section
variable {α β γ : Type} {S : List Sl} {enc : α → D} {enb : β → D} {G H G' H' : Hp} {own : Addr → Option Nat} {σ : L2.St} {Q : VK}
theorem Fin.grow {n : M α} (f : Fin X J enc n σ G H Q) (g : Grow G H G' H') : Fin X J enc n σ G' H' Q := by
  cases n with
  | ok z => exact fun v G2 H2 g2 d => f v G2 H2 (g.trans g2) d
  | er x => exact ErK.grow f g
  | no => exact f
theorem none_back {p : Addr} (g : Grow G H G' H') (h : H' p = none) : H p = none := Same.free g.h h
theorem FinO.grow {n : M (List α)} (f : FinO X J enc n σ G H Q) (g : Grow G H G' H') : FinO X J enc n σ G' H' Q := by
  cases n with
  | ok z => exact fun p vs G2 H2 g2 hp hq hg d => f p vs G2 H2 (g.trans g2) (none_back g hp) hq hg d
  | er x => exact ErK.grow f g
  | no => exact f
theorem FinB.grow {n : M α} (f : FinB X J enc n σ own G H Q) (g : Grow G H G' H') : FinB X J enc n σ own G' H' Q := by
  cases n with
  | ok z => exact fun v G2 H2 g2 d => f v G2 H2 (g.trans g2) d
  | er x => exact ErK.grow f g
  | no => exact f
theorem FinT.grow {n : M Bool} {Q : Bool → Hp → Prop} (f : FinT X J n σ G H Q) (g : Grow G H G' H') : FinT X J n σ G' H' Q := by
  cases n with
  | ok z => exact fun G2 H2 g2 => f G2 H2 (g.trans g2)
  | er x => exact ErK.grow f g
  | no => exact f
theorem DenB.of {v : V} {d : D} (h : Den X.K J.ca G v d) : DenB X J G H own v d := .inl h
theorem DenB.grow {v : V} {d : D} (h : DenB X J G H own v d) (g : Grow G H G' H') : DenB X J G' H' own v d := by
  rcases h with h | ⟨p, vs, ds, h1, h2, h4, h5, h6⟩
  · exact .inl (h.mono g.g)
  · exact .inr ⟨p, vs, ds, h1, h2, g.h _ _ h4, h5.mono g.g, (g.n p (by rw [h4]; exact fun z => by cases z)).trans h6⟩
theorem DenB.list {v : V} {ds : List D} (e : Same G H) (h : DenB X J G H own v (.lst ds)) : ∃ a vs, v = .ref a ∧ H a = some (.lst vs) ∧ DenL X.K J.ca G vs ds := by
  rcases h with h | ⟨p, vs, es, h1, h2, h4, h5, h6⟩
  · cases h with
    | lst h t => exact ⟨_, _, rfl, e _ _ h, t⟩
  · cases h2; exact ⟨p, vs, h1, h4, h5⟩
theorem Den.tuple {v : V} {ds : List D} (e : Same G H) (h : Den X.K J.ca G v (.tup ds)) : ∃ a vs, v = .ref a ∧ SqT X.K H a vs ∧ DenL X.K J.ca G vs ds := by
  cases h with
  | tup h t => exact ⟨_, _, rfl, same_seqT e h, t⟩
/-- anything but a list is frozen -/
theorem DenB.den {v : V} {d : D} (h : DenB X J G H own v d) (n : ∀ ds, d ≠ .lst ds) : Den X.K J.ca G v d := by
  rcases h with h | ⟨p, vs, es, h1, h2, h4, h5, h6⟩
  · exact h
  · exact absurd h2 (n _)

/-! what comes behind a first part: K, its result's kind -/
/-- a first part m, then f: R is the wish behind all, kept by growth -/
def Wish {δ : Type} (R : M δ → Hp → Hp → Prop) (W : Value → Option Addr → Hp → Prop) (K : PySem.W.Frag) (ca : Str → Addr) : Prop :=
  (∀ n G H G' H', R n G H → Grow G H G' H' → R n G' H') ∧ (∀ x G H, R (.er x) G H → ErK K ca x G H W) ∧ (∀ G H, ¬ R .no G H)
theorem Fin.wish : Wish (fun n G H => Fin X J enc n σ G H Q) (fun cls d H' => J.W cls d σ H') X.K J.ca := ⟨fun _ _ _ _ _ f g => f.grow g, fun _ _ _ f => f, fun _ _ f => f⟩
theorem FinO.wish : Wish (fun n G H => FinO X J enc n σ G H Q) (fun cls d H' => J.W cls d σ H') X.K J.ca := ⟨fun _ _ _ _ _ f g => f.grow g, fun _ _ _ f => f, fun _ _ f => f⟩
theorem FinB.wish : Wish (fun n G H => FinB X J enc n σ own G H Q) (fun cls d H' => J.W cls d σ H') X.K J.ca := ⟨fun _ _ _ _ _ f g => f.grow g, fun _ _ _ f => f, fun _ _ f => f⟩
theorem FinT.wish {Q : Bool → Hp → Prop} : Wish (fun n G H => FinT X J n σ G H Q) (fun cls d H' => J.W cls d σ H') X.K J.ca := ⟨fun _ _ _ _ _ f g => f.grow g, fun _ _ _ f => f, fun _ _ f => f⟩

theorem E_bind {δ : Type} {R : M δ → Hp → Hp → Prop} {n : M α} {f : α → M δ} {P : VK} (w : Wish R (fun cls d H' => J.W cls d σ H') X.K J.ca) (ok : OkX X J G H own σ S) (r : R (mb n f) G H)
    (h : ∀ x v G1 H1, Grow G H G1 H1 → OkX X J G1 H1 own σ S → Den X.K J.ca G1 v (enc x) → R (f x) G1 H1 → P v H1) : tE X J S enc n σ H P := by
  refine ⟨G, own, ok, ?_⟩
  cases n with
  | ok x => exact fun v G1 H1 g d => h x v G1 H1 g (ok.grow g) d (w.1 _ _ _ _ _ r g)
  | er x => exact w.2.1 _ _ _ r
  | no => exact w.2.2 _ _ r
theorem B_bind {δ : Type} {R : M δ → Hp → Hp → Prop} {n : M α} {f : α → M δ} {P : VK} (w : Wish R (fun cls d H' => J.W cls d σ H') X.K J.ca) (ok : OkX X J G H own σ S) (r : R (mb n f) G H)
    (h : ∀ x v G1 H1, Grow G H G1 H1 → OkX X J G1 H1 own σ S → DenB X J G1 H1 own v (enc x) → R (f x) G1 H1 → P v H1) : tEb X J S enc n σ H P := by
  refine ⟨G, own, ok, ?_⟩
  cases n with
  | ok x => exact fun v G1 H1 g d => h x v G1 H1 g (ok.grow g) d (w.1 _ _ _ _ _ r g)
  | er x => exact w.2.1 _ _ _ r
  | no => exact w.2.2 _ _ r
theorem O_bind {δ : Type} {R : M δ → Hp → Hp → Prop} {n : M (List α)} {f : List α → M δ} {P : VK} (w : Wish R (fun cls d H' => J.W cls d σ H') X.K J.ca) (ok : OkX X J G H own σ S) (r : R (mb n f) G H)
    (h : ∀ x p vs G1 H1, Grow G H G1 H1 → OkX X J G1 H1 own σ S → H p = none → own p = none → H1 p = some (.lst vs) → G1 p = none → DenL X.K J.ca G1 vs (x.map enc) → R (f x) G1 H1 → P (.ref p) H1) : tO X J S enc n σ H P := by
  refine ⟨G, own, ok, ?_⟩
  cases n with
  | ok x => exact fun p vs G1 H1 g hp hq hg d => h x p vs G1 H1 g (ok.grow g) hp (by
      cases q : own p with
      | none => rfl
      | some i => exact absurd hp (ok.ow p i q).2.2) hq hg d (w.1 _ _ _ _ _ r g)
  | er x => exact w.2.1 _ _ _ r
  | no => exact w.2.2 _ _ r
theorem T_bind {δ : Type} {R : M δ → Hp → Hp → Prop} {n : M Bool} {f : Bool → M δ} {P : Bool → Hp → Prop} (w : Wish R (fun cls d H' => J.W cls d σ H') X.K J.ca) (ok : OkX X J G H own σ S) (r : R (mb n f) G H)
    (h : ∀ x G1 H1, Grow G H G1 H1 → OkX X J G1 H1 own σ S → R (f x) G1 H1 → P x H1) : tT X J S n σ H P := by
  refine ⟨G, own, ok, ?_⟩
  cases n with
  | ok x => exact fun G1 H1 g => h x G1 H1 g (ok.grow g) (w.1 _ _ _ _ _ r g)
  | er x => exact w.2.1 _ _ _ r
  | no => exact w.2.2 _ _ r
end

/-! ### conversions -/
section
variable {α β : Type} {S : List Sl} {e : Expr} {enc : α → D}
theorem b_e {n : M α} (h : DE X J S e enc n) : DB X J S e enc n := pe_imp h fun σ H Q ⟨G, own, ok, fin⟩ => by
  refine ⟨G, own, ok, ?_⟩
  cases n with
  | ok z => exact fun v G' H' g d => fin v G' H' g (.inl d)
  | er x => exact fin
  | no => exact fin
theorem e_o {n : M (List α)} (h : DO X J S e enc n) : DE X J S e (eL enc) n := pe_imp h fun σ H Q ⟨G, own, ok, fin⟩ => by
  refine ⟨G, own, ok, ?_⟩
  cases n with
  | ok z =>
    refine fun p vs G' H' g hp hq hg d => fin (.ref p) (upd G' p (.lst vs)) H' ⟨g.g.trans (same_upd hg), g.h, fun b o e => ?_, fun b hb => ?_⟩ (.lst upd_same (d.mono (same_upd hg)))
    · by_cases z : b = p
      · subst z; rw [upd_same] at e; cases e; exact hq
      · rw [upd_ne z] at e; exact g.gh _ _ e
    · have : b ≠ p := fun z => hb (z ▸ hp)
      rw [upd_ne this]; exact g.n b hb
  | er x => exact fin
  | no => exact fin
/-- anything but lists -/
theorem e_b {n : M α} (h : DB X J S e enc n) (hn : ∀ z ds, enc z ≠ .lst ds) : DE X J S e enc n := pe_imp h fun σ H Q ⟨G, own, ok, fin⟩ => by
  refine ⟨G, own, ok, ?_⟩
  cases n with
  | ok z => exact fun v G' H' g d => fin v G' H' g (d.den (hn z))
  | er x => exact fin
  | no => exact fin
theorem e_enc {enb : β → D} {n : M α} {n' : M β} (h : DE X J S e enc n) (he : (∀ z, n' = .ok z → ∃ y, n = .ok y ∧ enc y = enb z) ∧ (∀ x, n' = .er x → n = .er x)) : DE X J S e enb n' := pe_imp h fun σ H Q ⟨G, own, ok, fin⟩ => by
  refine ⟨G, own, ok, ?_⟩
  cases n' with
  | ok z =>
    obtain ⟨y, e1, e2⟩ := he.1 z rfl
    rw [e1]
    exact fun v G' H' g d => fin v G' H' g (e2 ▸ d)
  | er x => rw [he.2 x rfl]; exact fin
  | no => exact fin.elim
end

/-! ### names, constants -/
section
variable {α : Type} {S : List Sl} {enc : α → D} {pos : Pos}
theorem e_var (i : Nat) {x : Str} {z : α} (hs : S[i]? = some (.fr (enc z))) (hp : PE X (.Name x pos) (tVar i)) : DE X J S (.Name x pos) enc (.ok z) := pe_imp hp fun σ H Q ⟨G, own, ok, fin⟩ => by
  obtain ⟨v, h1, h2⟩ := ok.sl i _ hs
  exact ⟨v, h1, fin v G H (Grow.refl ok.gh) h2⟩
theorem b_var (i : Nat) {x : Str} {z : List α} (hs : S[i]? = some (.ow (z.map enc))) (hp : PE X (.Name x pos) (tVar i)) : DB X J S (.Name x pos) (eL enc) (.ok z) := pe_imp hp fun σ H Q ⟨G, own, ok, fin⟩ => by
  obtain ⟨p, vs, h1, h2, h3, h4⟩ := ok.sl i _ hs
  exact ⟨_, h1, fin _ G H (Grow.refl ok.gh) (.inr ⟨p, vs, _, rfl, rfl, h3, h4, (ok.ow p i h2).2.1⟩)⟩
theorem Ok.lentB {B : Bs} {G H : Hp} {own : Addr → Option Nat} {σ : L2.St} {p : Addr} {vs : List V} {ds : List D} (ok : Ok X.K J.ca B G H own σ S) (h : B.H0 p = some (.lst vs)) (d : DenL X.K J.ca G vs ds) : DenB X J G H own (.ref p) (.lst ds) := by
  have hp := ok.h0 _ _ h
  cases hg : G p with
  | none => exact .inr ⟨p, vs, ds, rfl, rfl, hp, d, hg⟩
  | some o =>
    have := ok.gh _ _ hg
    rw [hp] at this
    cases this
    exact .inl (.lst hg d)
/-- a lent list by its name -/
theorem l_var (i : Nat) {x : Str} {z : List α} (hs : S[i]? = some (.ln (z.map enc))) (hp : PE X (.Name x pos) (tVar i)) : DB X J S (.Name x pos) (eL enc) (.ok z) := pe_imp hp fun σ H Q ⟨G, own, ok, fin⟩ => by
  obtain ⟨p, vs, h1, h2, h3⟩ := ok.sl i _ hs
  exact ⟨_, h1, fin _ G H (Grow.refl ok.gh) (Ok.lentB (X := X) (J := J) (S := S) ok h2 h3)⟩
theorem e_int {k : Int} {j : Nat} (hp : PE X (.Constant (.int k) j pos) (tC (.int k)) := by exact pe_int) : DE X J S (.Constant (.int k) j pos) eI (.ok k) := pe_imp hp fun σ H Q ⟨G, own, ok, fin⟩ => fin _ G H (Grow.refl ok.gh) (.int k)
theorem e_non {j : Nat} (hp : PE X (.Constant .none j pos) (tC .non) := by exact pe_non) : DE X J S (.Constant .none j pos) eU (.ok ()) := pe_imp hp fun σ H Q ⟨G, own, ok, fin⟩ => fin _ G H (Grow.refl ok.gh) .non
end
end DL

namespace DL
open PySem PySem.Spec PyProof.Rows L2
variable {X : Cx} {J : Jx}

/-! ### outcomes of statements -/
inductive Out (β γ ρ : Type) where
  | nx (b : β) | rt (r : ρ) | bk (c : γ) | ct (c : γ)
inductive RV where
  | fr (d : D) | ow (ds : List D) | op (ds : List D) (d : D)
def sq {β β' γ ρ : Type} (m : M (Out β γ ρ)) (f : β → M (Out β' γ ρ)) : M (Out β' γ ρ) := match m with
  | .ok (.nx b) => f b
  | .ok (.rt r) => .ok (.rt r)
  | .ok (.bk c) => .ok (.bk c)
  | .ok (.ct c) => .ok (.ct c)
  | .er x => .er x
  | .no => .no
@[simp] theorem sq_nx {β β' γ ρ : Type} (b : β) (f : β → M (Out β' γ ρ)) : sq (.ok (.nx b)) f = f b := rfl
@[simp] theorem sq_rt {β β' γ ρ : Type} (r : ρ) (f : β → M (Out β' γ ρ)) : sq (.ok (.rt r)) f = .ok (.rt r) := rfl
@[simp] theorem sq_bk {β β' γ ρ : Type} (r : γ) (f : β → M (Out β' γ ρ)) : sq (.ok (.bk r)) f = .ok (.bk r) := rfl
@[simp] theorem sq_ct {β β' γ ρ : Type} (r : γ) (f : β → M (Out β' γ ρ)) : sq (.ok (.ct r)) f = .ok (.ct r) := rfl
@[simp] theorem sq_er {β β' γ ρ : Type} (x : Ex) (f : β → M (Out β' γ ρ)) : sq (.er x) f = .er x := rfl
@[simp] theorem sq_no {β β' γ ρ : Type} (f : β → M (Out β' γ ρ)) : sq .no f = .no := rfl
theorem sq_mb {α β β' γ ρ : Type} (m : M α) (g : α → M (Out β γ ρ)) (f : β → M (Out β' γ ρ)) : sq (mb m g) f = mb m fun x => sq (g x) f := by cases m <;> rfl
theorem sq_ite {β β' γ ρ : Type} (c : Prop) [Decidable c] (a b : M (Out β γ ρ)) (f : β → M (Out β' γ ρ)) : sq (if c then a else b) f = if c then sq a f else sq b f := by split <;> rfl

section
variable (X : Cx) (J : Jx)
def RtK (r : RV) (rt : VK) : Prop := match r with
  | .fr d => ∀ v G' H', Grow J.B.G0 J.B.H0 G' H' → Den X.K J.ca G' v d → rt v H'
  | .ow ds => ∀ p vs G' H', Grow J.B.G0 J.B.H0 G' H' → J.B.H0 p = none → H' p = some (.lst vs) → G' p = none → DenL X.K J.ca G' vs ds → rt (.ref p) H'
  | .op ds d => ∀ t p u vs G' H', Grow J.B.G0 J.B.H0 G' H' → J.B.H0 p = none → H' p = some (.lst vs) → G' p = none → SqT X.K G' t [.ref p, u] → DenL X.K J.ca G' vs ds → Den X.K J.ca G' u d → rt (.ref t) H'
def FinS {β γ ρ : Type} (N : β → List Sl) (L : γ → List Sl) (R : ρ → RV) (Dn : Ends) (G : Hp) (n : M (Out β γ ρ)) : Prop := match n with
  | .ok (.nx b) => ∀ σ' G' H' own', Same G G' → OkX X J G' H' own' σ' (N b) → Dn.nx σ' H'
  | .ok (.bk c) => ∀ σ' G' H' own', Same G G' → OkX X J G' H' own' σ' (L c) → Dn.bk σ' H'
  | .ok (.ct c) => ∀ σ' G' H' own', Same G G' → OkX X J G' H' own' σ' (L c) → Dn.ct σ' H'
  | .ok (.rt r) => RtK X J (R r) Dn.rt
  | .er x => ∀ cls d σ' G' H' own', Same G G' → OkX X J G' H' own' σ' J.Sx → Raised X.K J.ca x G' cls d H' → J.W cls d σ' H'
  | .no => False
def tS {β γ ρ : Type} (S : List Sl) (N : β → List Sl) (L : γ → List Sl) (R : ρ → RV) (n : M (Out β γ ρ)) : TS := fun Dn σ H => ∃ G own, OkX X J G H own σ S ∧ FinS X J N L R Dn G n
def DSs {β γ ρ : Type} (S : List Sl) (b : List Stmt) (N : β → List Sl) (L : γ → List Sl) (R : ρ → RV) (n : M (Out β γ ρ)) : Prop := PSs X b (tS X J S N L R n)
def DS {β γ ρ : Type} (S : List Sl) (b : Stmt) (N : β → List Sl) (L : γ → List Sl) (R : ρ → RV) (n : M (Out β γ ρ)) : Prop := PS X b (tS X J S N L R n)
end

section
variable {α β β' γ ρ : Type} {S S' : List Sl} {N : β → List Sl} {N' : β' → List Sl} {L : γ → List Sl} {R : ρ → RV} {Dn : Ends} {G H G' H' : Hp} {own : Addr → Option Nat} {σ : L2.St} {enc : α → D} {rest body : List Stmt} {st : Stmt} {e : Expr} {pos : Pos}
theorem FinS.mono {n : M (Out β γ ρ)} (f : FinS X J N L R Dn G n) (g : Same G G') : FinS X J N L R Dn G' n := by
  cases n with
  | ok o =>
    cases o with
    | nx b => exact fun σ' G2 H' own' sg ok' => f σ' G2 H' own' (g.trans sg) ok'
    | rt r => exact f
    | bk c => exact fun σ' G2 H' own' sg ok' => f σ' G2 H' own' (g.trans sg) ok'
    | ct c => exact fun σ' G2 H' own' sg ok' => f σ' G2 H' own' (g.trans sg) ok'
  | er x => exact fun cls d σ' G2 H' own' sg ok' ra => f cls d σ' G2 H' own' (g.trans sg) ok' ra
  | no => exact f
theorem FinS.wish (hw : Wk S J.Sx) : Wish (fun (n : M (Out β γ ρ)) G H => FinS X J N L R Dn G n ∧ OkX X J G H own σ S) (fun cls d H' => J.W cls d σ H') X.K J.ca :=
  ⟨fun _ _ _ _ _ f g => ⟨f.1.mono g.g, f.2.grow g⟩, fun x G H f cls d G' H' g r => f.1 cls d σ G' H' own g.g ((f.2.grow g).weak hw) r, fun _ _ f => f.1⟩
theorem OkX.rt (k : OkX X J G H own σ S) {v : V} {d : D} (h : Den X.K J.ca G v d) {rt : VK} (q : RtK X J (.fr d) rt) : rt v H := q v G H k.base h

theorem ss_cons {m : M (Out β γ ρ)} {f : β → M (Out β' γ ρ)} (h : DS X J S st N L R m) (hr : ∀ b, DSs X J (N b) rest N' L R (f b)) : DSs X J S (st :: rest) N' L R (sq m f) :=
  pss_imp (pss_cons h (pss_ex hr)) fun Dn σ H ⟨G, own, ok, fin⟩ => by
    refine ⟨G, own, ok, ?_⟩
    cases m with
    | ok o =>
      cases o with
      | nx b => exact fun σ' G' H' own' sg ok' => ⟨b, G', own', ok', FinS.mono fin sg⟩
      | rt r => exact fin
      | bk c => exact fin
      | ct c => exact fin
    | er x => exact fin
    | no => exact fin
theorem ss_nil {b : β} (hw : Wk S (N b)) : DSs X J S [] N L R (.ok (.nx b)) :=
  pss_imp pss_nil fun Dn σ H ⟨G, own, ok, fin⟩ => fin σ G H own (Same.refl _) (ok.weak hw)
theorem ss_un {m : M (Out β γ ρ)} (hw : Wk S S') (h : DSs X J S' body N L R m) : DSs X J S body N L R m :=
  pss_imp h fun Dn σ H ⟨G, own, ok, fin⟩ => ⟨G, own, ok.weak hw, fin⟩
theorem ss_frz {m : M (Out β γ ρ)} {ds : List D} (i : Nat) (hs : S[i]? = some (.ow ds)) (h : DSs X J (S.set i (.fr (.lst ds))) body N L R m) : DSs X J S body N L R m :=
  pss_imp h fun Dn σ H ⟨G, own, ok, fin⟩ => by
    obtain ⟨G', own', sg, ok'⟩ := ok.frz hs
    exact ⟨G', own', ok', fin.mono sg⟩
/-- x = e, the value frozen -/
theorem ss_asg {m : M α} {f : α → M (Out β γ ρ)} {i : Nat} {x : Str} {pos' : Pos} (hN : X.N.Nodup) (he : DE X J S e enc m) (hr : ∀ x, DSs X J (S.set i (.fr (enc x))) rest N L R (f x)) (hw : Wk S J.Sx) (hi : X.N[i]? = some x := by rfl) (hx : Loc X.env.scope x := by first | exact Or.inl rfl | exact Or.inr rfl)
    (hs : swapsWith e (some (.Name x pos')) pos.line X.env = pure false := by rfl) (hf : X.fn x = true ∨ X.env.scope.names.lookup x = some .local := by first | exact .inl rfl | exact .inr rfl) :
    DSs X J S (.Assign [.Name x pos'] e pos :: rest) N L R (mb m f) :=
  pss_imp (pss_cons (ps_set (i := i) hN hi hx he hs hf) (pss_ex hr)) fun Dn σ H ⟨G, own, ok, fin⟩ =>
    E_bind (FinS.wish hw) ok ⟨fin, ok⟩ fun x v G1 H1 g ok1 d r => ⟨x, G1, own, ok1.setF d, r.1⟩
/-- x = e, the value a new list of its own -/
theorem ss_asgO {m : M (List α)} {f : List α → M (Out β γ ρ)} {i : Nat} {x : Str} {pos' : Pos} (hN : X.N.Nodup) (he : DO X J S e enc m) (hr : ∀ x, DSs X J (S.set i (.ow (x.map enc))) rest N L R (f x)) (hw : Wk S J.Sx) (hi : X.N[i]? = some x := by rfl) (hx : Loc X.env.scope x := by first | exact Or.inl rfl | exact Or.inr rfl)
    (hs : swapsWith e (some (.Name x pos')) pos.line X.env = pure false := by rfl) (hf : X.fn x = true ∨ X.env.scope.names.lookup x = some .local := by first | exact .inl rfl | exact .inr rfl) :
    DSs X J S (.Assign [.Name x pos'] e pos :: rest) N L R (mb m f) :=
  pss_imp (pss_cons (ps_set (i := i) hN hi hx he hs hf) (pss_ex hr)) fun Dn σ H ⟨G, own, ok, fin⟩ =>
    O_bind (FinS.wish hw) ok ⟨fin, ok⟩ fun x p vs G1 H1 g ok1 hp ho hq hg d r => ⟨x, G1, _, ok1.setO hq (Same.free ok.h0 hp) hg ho d, r.1⟩
theorem ss_ret {m : M α} {g : α → ρ} (he : DE X J S e enc m) (hw : Wk S J.Sx) (hR : ∀ x, R (g x) = .fr (enc x)) : DSs X J S (.Return (some e) pos :: rest) N L R (mb m fun x => .ok (.rt (g x))) :=
  pss_imp (pss_cons (ps_ret he) pss_never) fun Dn σ H ⟨G, own, ok, fin⟩ =>
    E_bind (FinS.wish hw) ok ⟨fin, ok⟩ fun x v G1 H1 _ ok1 d r => by
      have q : RtK X J (R (g x)) Dn.rt := r.1
      rw [hR x] at q
      exact ok1.rt d q
theorem ss_retO {m : M (List α)} {g : List α → ρ} (he : DO X J S e enc m) (hw : Wk S J.Sx) (hR : ∀ x, R (g x) = .ow (x.map enc)) : DSs X J S (.Return (some e) pos :: rest) N L R (mb m fun x => .ok (.rt (g x))) :=
  pss_imp (pss_cons (ps_ret he) pss_never) fun Dn σ H ⟨G, own, ok, fin⟩ =>
    O_bind (FinS.wish hw) ok ⟨fin, ok⟩ fun x p vs G1 H1 _ ok1 hp ho hq hg d r => by
      have q : RtK X J (R (g x)) Dn.rt := r.1
      rw [hR x] at q
      exact q p vs G1 H1 ok1.base (Same.free ok.h0 hp) hq hg d
/-- return x, x a list of its own -/
theorem ss_retV {ds : List D} {x : Str} {p : Pos} {r : ρ} (i : Nat) (hs : S[i]? = some (.ow ds)) (hR : R r = .ow ds) (hp : PE X (.Name x p) (tVar i)) : DSs X J S (.Return (some (.Name x p)) pos :: rest) N L R (.ok (.rt r)) :=
  pss_imp (pss_cons (ps_ret hp) pss_never) fun Dn σ H ⟨G, own, ok, fin⟩ => by
    obtain ⟨p, vs, h1, h2, h3, h4⟩ := ok.sl i _ hs
    obtain ⟨a, b, c⟩ := ok.ow p i h2
    have q : RtK X J (R r) Dn.rt := fin
    rw [hR] at q
    exact ⟨_, h1, q p vs G H ok.base a h3 b h4⟩
theorem ss_retN {r : ρ} (hR : R r = .fr .non) : DSs X J S (.Return none pos :: rest) N L R (.ok (.rt r)) :=
  pss_imp (pss_cons ps_retN pss_never) fun Dn σ H ⟨G, own, ok, fin⟩ => by
    have q : RtK X J (R r) Dn.rt := fin
    rw [hR] at q
    exact q .non G H ok.base .non
theorem ss_pass {m : M (Out β γ ρ)} (h : DSs X J S rest N L R m) : DSs X J S (.Pass pos :: rest) N L R m := pss_cons ps_pass h
theorem ss_brk {c : γ} (hw : Wk S (L c)) : DSs X J S (.Break pos :: rest) N L R (.ok (.bk c)) :=
  pss_imp (pss_cons ps_break pss_never) fun Dn σ H ⟨G, own, ok, fin⟩ => fin σ G H own (Same.refl _) (ok.weak hw)
theorem ss_cont {c : γ} (hw : Wk S (L c)) : DSs X J S (.Continue pos :: rest) N L R (.ok (.ct c)) :=
  pss_imp (pss_cons ps_continue pss_never) fun Dn σ H ⟨G, own, ok, fin⟩ => fin σ G H own (Same.refl _) (ok.weak hw)
theorem ss_expr {m : M α} {f : M (Out β γ ρ)} (he : DE X J S e enc m) (hr : DSs X J S rest N L R f) (hw : Wk S J.Sx) (hs : swapsWith e none pos.line X.env = pure false := by rfl) : DSs X J S (.Expr e pos :: rest) N L R (mb m fun _ => f) :=
  pss_imp (pss_cons (ps_expr he hs) hr) fun Dn σ H ⟨G, own, ok, fin⟩ =>
    E_bind (FinS.wish hw) ok ⟨fin, ok⟩ fun x v G1 H1 _ ok1 d r => ⟨G1, own, ok1, r.1⟩
/-- if c: a else: b, then the rest -/
theorem ss_if {c : Expr} {a b : List Stmt} {mc : M Bool} {ma mb' : M (Out β γ ρ)} {f : β → M (Out β' γ ρ)} (hc : DT X J S c mc) (ha : DSs X J S a N L R ma) (hb : DSs X J S b N L R mb') (hr : ∀ b, DSs X J (N b) rest N' L R (f b)) (hw : Wk S J.Sx) :
    DSs X J S (.If c a b pos :: rest) N' L R (mb mc fun k => sq (if k = true then ma else mb') f) := by
  have h1 : DS X J S (.If c a b pos) N L R (mb mc fun k => if k = true then ma else mb') := ps_imp (ps_if hc ha hb) fun Dn σ H ⟨G, own, ok, fin⟩ =>
    T_bind (FinS.wish hw) ok ⟨fin, ok⟩ fun x G1 H1 g ok1 r => by
      cases x with
      | true => exact ⟨G1, own, ok1, r.1⟩
      | false => exact ⟨G1, own, ok1, r.1⟩
  rw [← sq_mb]
  exact ss_cons h1 hr
/-- its first branch never goes on -/
def NoNx {β γ ρ : Type} (m : M (Out β γ ρ)) : Prop := ∀ b, m ≠ .ok (.nx b)
theorem nn_rt {r : ρ} : NoNx (.ok (.rt r) : M (Out β γ ρ)) := fun b h => by cases h
theorem nn_bk {r : γ} : NoNx (.ok (.bk r) : M (Out β γ ρ)) := fun b h => by cases h
theorem nn_ct {r : γ} : NoNx (.ok (.ct r) : M (Out β γ ρ)) := fun b h => by cases h
theorem nn_er {x : Ex} : NoNx (.er x : M (Out β γ ρ)) := fun b h => by cases h
theorem nn_no : NoNx (.no : M (Out β γ ρ)) := fun b h => by cases h
theorem nn_mb {m : M α} {f : α → M (Out β γ ρ)} (h : ∀ x, NoNx (f x)) : NoNx (mb m f) := by
  cases m with
  | ok x => exact h x
  | er x => exact nn_er
  | no => exact nn_no
theorem nn_sq {m : M (Out β' γ ρ)} {f : β' → M (Out β γ ρ)} (h : ∀ x, NoNx (f x)) : NoNx (sq m f) := by
  cases m with
  | ok o =>
    cases o with
    | nx b => exact h b
    | rt r => exact nn_rt
    | bk r => exact nn_bk
    | ct r => exact nn_ct
  | er x => exact nn_er
  | no => exact nn_no
theorem nn_ite {c : Prop} [Decidable c] {a b : M (Out β γ ρ)} (ha : NoNx a) (hb : NoNx b) : NoNx (if c then a else b) := by split <;> assumption
theorem ss_ifX {c : Expr} {a : List Stmt} {mc : M Bool} {ma f : M (Out β γ ρ)} (hc : DT X J S c mc) (ha : DSs X J S a N L R ma) (hn : NoNx ma) (hr : DSs X J S rest N L R f) (hw : Wk S J.Sx) :
    DSs X J S (.If c a [] pos :: rest) N L R (mb mc fun k => if k = true then ma else f) :=
  pss_imp (pss_cons (ps_if hc ha pss_nil) hr) fun Dn σ H ⟨G, own, ok, fin⟩ =>
    T_bind (FinS.wish hw) ok ⟨fin, ok⟩ fun x G1 H1 g ok1 r => by
      cases x with
      | true =>
        refine ⟨G1, own, ok1, ?_⟩
        have r1 := r.1
        simp only [if_true] at r1
        cases hm : ma with
        | ok o =>
          rw [hm] at r1
          cases o with
          | nx b => exact absurd hm (hn b)
          | rt r => exact r1
          | bk c => exact r1
          | ct c => exact r1
        | er x => rw [hm] at r1; exact r1
        | no => rw [hm] at r1; exact r1
      | false => exact ⟨G1, own, ok1, r.1⟩
/-- .. and it is the last statement, both branches free -/
theorem ss_ifL {c : Expr} {a b : List Stmt} {mc : M Bool} {ma mb' : M (Out β γ ρ)} (hc : DT X J S c mc) (ha : DSs X J S a N L R ma) (hb : DSs X J S b N L R mb') (hw : Wk S J.Sx) :
    DSs X J S [.If c a b pos] N L R (mb mc fun k => if k = true then ma else mb') :=
  pss_imp (pss_one (ps_if hc ha hb)) fun Dn σ H ⟨G, own, ok, fin⟩ =>
    T_bind (FinS.wish hw) ok ⟨fin, ok⟩ fun x G1 H1 g ok1 r => by
      cases x with
      | true => exact ⟨G1, own, ok1, r.1⟩
      | false => exact ⟨G1, own, ok1, r.1⟩

/-! ### lists of a slot's own, changed -/
def line : Nat := 16000000
theorem line_le : line ≤ sizeLine := by rw [sizeLine_eq]; decide
def app {α : Type} (xs : List α) (x : α) : M (List α) := if xs.length < line then .ok (xs ++ [x]) else .no
theorem app_ok {α : Type} {xs : List α} {x : α} (h : xs.length < line) : app xs x = .ok (xs ++ [x]) := if_pos h
/-- x.append(e) -/
theorem ss_app {m : M α} {f : List α → M (Out β γ ρ)} {xs : List α} {x : Str} {p p2 pos2 : Pos} (i : Nat) (hs : S[i]? = some (.ow (xs.map enc))) (hp : PE X (.Name x p) (tVar i)) (he : DE X J S e enc m) (hr : ∀ ys, DSs X J (S.set i (.ow (ys.map enc))) rest N L R (f ys)) (hw : Wk S J.Sx)
    (hb : PE X (.Call (.Attribute (.Name x p) "append" p2) [e] [] pos2) (tBM X.K "list" rAppend (tVar i) (tCons (tE X J S enc m) tNil)))
    (hsw : swapsWith (.Call (.Attribute (.Name x p) "append" p2) [e] [] pos2) none pos.line X.env = pure false := by rfl) :
    DSs X J S (.Expr (.Call (.Attribute (.Name x p) "append" p2) [e] [] pos2) pos :: rest) N L R (mb m fun z => mb (app xs z) f) :=
  pss_imp (pss_cons (ps_expr hb hsw) (pss_ex hr)) fun Dn σ H ⟨G, own, ok, fin⟩ => by
    obtain ⟨q, vs, h1, h2, h3, h4⟩ := ok.sl i _ hs
    refine ⟨.ref q, h1, .inl ⟨rfl, _, SqL.of h3⟩, ?_⟩
    refine E_bind (FinS.wish hw) ok ⟨fin, ok⟩ fun z v G1 H1 g ok1 d r => ?_
    have hq := g.h _ _ h3
    have hl := h4.length
    rw [List.length_map] at hl
    have r1 := r.1
    by_cases hz : xs.length < line
    · rw [app_ok hz] at r1
      have dl : DenL X.K J.ca G1 (vs ++ [v]) ((xs ++ [z]).map enc) := by
        rw [List.map_append]
        exact (h4.mono g.g).append (.cons d .nil)
      exact ⟨q, vs, v, rfl, rfl, hq, by rw [hl]; exact Nat.lt_of_lt_of_le hz line_le, _, G1, own, ok1.mut hq h2 dl h1, r1⟩
    · unfold app at r1
      rw [if_neg hz] at r1
      exact r1.elim
end

/-! ### loops -/
section
variable {α β γ δ ρ : Type}
def forM (f : α → γ → M (Out γ γ ρ)) : List α → γ → M (Out γ δ ρ)
  | [], s => .ok (.nx s)
  | x :: xs, s => match f x s with
    | .ok (.nx s') => forM f xs s'
    | .ok (.ct s') => forM f xs s'
    | .ok (.bk s') => .ok (.nx s')
    | .ok (.rt r) => .ok (.rt r)
    | .er e => .er e
    | .no => .no
def whileM (c : γ → M Bool) (f : γ → M (Out γ γ ρ)) : Nat → γ → M (Out γ δ ρ)
  | 0, _ => .no
  | n + 1, s => mb (c s) fun k => if k = true then (match f s with
    | .ok (.nx s') => whileM c f n s'
    | .ok (.ct s') => whileM c f n s'
    | .ok (.bk s') => .ok (.nx s')
    | .ok (.rt r) => .ok (.rt r)
    | .er e => .er e
    | .no => .no) else .ok (.nx s)
@[simp] theorem forM_nil (f : α → γ → M (Out γ γ ρ)) (s : γ) : (forM f [] s : M (Out γ δ ρ)) = .ok (.nx s) := rfl
end

/-! ### functions -/
def fnO {β γ ρ : Type} (R : ρ → RV) (n : M (Out β γ ρ)) : M RV := match n with
  | .ok (.nx _) => .ok (.fr .non)
  | .ok (.rt r) => .ok (R r)
  | .ok _ => .no
  | .er x => .er x
  | .no => .no
def spR (K : PySem.W.Frag) (ca : Str → Addr) (G H : Hp) (r : M RV) (Q : VK) (E : XK) : Prop := match r with
  | .ok (.fr d) => ∀ v G' H', Grow G H G' H' → Den K ca G' v d → Q v H'
  | .ok (.ow ds) => ∀ p vs G' H', Grow G H G' H' → H p = none → H' p = some (.lst vs) → G' p = none → DenL K ca G' vs ds → Q (.ref p) H'
  | .ok (.op ds d) => ∀ t p u vs G' H', Grow G H G' H' → H p = none → H' p = some (.lst vs) → G' p = none → SqT K G' t [.ref p, u] → DenL K ca G' vs ds → Den K ca G' u d → Q (.ref t) H'
  | .er x => ErK K ca x G H E
  | .no => False
/-- arguments: frozen, or lists lent -/
inductive ArgL (K : PySem.W.Frag) (ca : Str → Addr) (G H : Hp) : List V → List Sl → Prop where
  | nil : ArgL K ca G H [] []
  | cons {v : V} {d : D} {vs : List V} {ss : List Sl} : Den K ca G v d → ArgL K ca G H vs ss → ArgL K ca G H (v :: vs) (.fr d :: ss)
  | consL {p : Addr} {ws : List V} {ds : List D} {vs : List V} {ss : List Sl} : H p = some (.lst ws) → DenL K ca G ws ds → ArgL K ca G H vs ss → ArgL K ca G H (.ref p :: vs) (.ln ds :: ss)
theorem ArgL.length {K : PySem.W.Frag} {ca : Str → Addr} {G H : Hp} : ∀ {vs : List V} {ss : List Sl}, ArgL K ca G H vs ss → vs.length = ss.length
  | _, _, .nil => rfl
  | _, _, .cons _ t => congrArg (· + 1) (ArgL.length t)
  | _, _, .consL _ _ t => congrArg (· + 1) (ArgL.length t)
theorem ArgL.mono {K : PySem.W.Frag} {ca : Str → Addr} {G H G' H' : Hp} (g : Same G G') (h : Same H H') : ∀ {vs : List V} {ss : List Sl}, ArgL K ca G H vs ss → ArgL K ca G' H' vs ss
  | _, _, .nil => .nil
  | _, _, .cons d t => .cons (d.mono g) (ArgL.mono g h t)
  | _, _, .consL p d t => .consL (h _ _ p) (d.mono g) (ArgL.mono g h t)
theorem ArgL.of {K : PySem.W.Frag} {ca : Str → Addr} {G H : Hp} : ∀ {vs : List V} {ds : List D}, DenL K ca G vs ds → ArgL K ca G H vs (ds.map Sl.fr)
  | _, _, .nil => .nil
  | _, _, .cons d t => .cons d (ArgL.of t)
/-- a def's promise: at the arguments encA a it answers code a -/
def spF (K : PySem.W.Frag) (ca : Str → Addr) {α : Type} (encA : α → List Sl) (code : α → M RV) : Sp := fun vs H Q E => ∃ a G, Same G H ∧ ArgL K ca G H vs (encA a) ∧ spR K ca G H (code a) Q E
/-- nothing is said of the slots at a raise -/
abbrev jx (ca : Str → Addr) (E : XK) (G H : Hp) : Jx := ⟨ca, fun cls d _ H' => E cls d H', ⟨G, H⟩, []⟩
structure CxD (X : Cx) (J : Jx) (k : Nat) : Prop where
  calm : X.calm = true
  tk : L2N.Takes X J.W
  po : PassesOwn (model X.prog X.w) X.A X.env X.xe
  room : Room k X.A
  nd : X.N.Nodup
theorem start_get {N : List Str} {vs : List V} {i : Nat} {v : V} (h : vs[i]? = some v) : (L2.start N vs)[i]? = some (some v) := by
  unfold L2.start
  have hi : i < vs.length := (List.getElem?_eq_some_iff.mp h).1
  rw [List.getElem?_append_left (by simpa using hi), List.getElem?_map, h]
  rfl
theorem ArgL.get {K : PySem.W.Frag} {ca : Str → Addr} {G H H0 : Hp} (hH : ∀ (p : Addr) (vs : List V), H p = some (.lst vs) → H0 p = some (.lst vs)) {own : Addr → Option Nat} : ∀ {vs : List V} {ss : List Sl} {i : Nat} {s : Sl}, ArgL K ca G H vs ss → ss[i]? = some s → ∃ v, vs[i]? = some v ∧ ∀ j H2, SlOk K ca ⟨G, H0⟩ G H2 own (some (some v)) j s
  | _, _, _, _, .nil, e => by simp at e
  | _, _, 0, _, .cons d _, e => by cases e; exact ⟨_, rfl, fun j H2 => ⟨_, rfl, d⟩⟩
  | _, _, 0, _, .consL p d _, e => by cases e; exact ⟨_, rfl, fun j H2 => ⟨_, _, rfl, hH _ _ p, d⟩⟩
  | _, _, i + 1, s, .cons _ t, e => ArgL.get hH (i := i) t (by simpa using e)
  | _, _, i + 1, s, .consL _ _ t, e => ArgL.get hH (i := i) t (by simpa using e)
theorem ok_start {K : PySem.W.Frag} {ca : Str → Addr} {G H : Hp} {N : List Str} {vs : List V} {ss : List Sl} {n : Nat} (e : Same G H) (h : ArgL K ca G H vs ss) (hn : ss.length + n ≤ N.length) :
    Ok K ca ⟨G, H⟩ G H (fun _ => none) (L2.start N vs) (ss ++ List.replicate n .un) := by
  have hl := h.length
  refine ⟨by simp [L2.start]; omega, e, Same.refl _, Same.refl _, fun _ _ => rfl, (fun p i z => nomatch z), fun i s q => ?_⟩
  by_cases hi : i < ss.length
  · rw [List.getElem?_append_left hi] at q
    obtain ⟨v, h1, h2⟩ := h.get (fun _ _ z => z) (own := fun _ => none) q
    rw [start_get h1]
    exact h2 i H
  · rw [List.getElem?_append_right (by omega), List.getElem?_replicate] at q
    split at q
    · cases q; trivial
    · cases q
section
variable {P : Program} {w : World} {K : PySem.W.Frag} {mg : Str → Option Value} {base : Heap}
theorem fn_ok {x qual : Str} {st : Stmt} {f : Addr} {fd : FuncData} {N ps : List Str} {k n : Nat} {ca : Str → Addr} {α β γ ρ : Type} {encA : α → List Sl} {R : ρ → RV} {Nx : α → β → List Sl} {L : α → γ → List Sl} {code : α → M (Out β γ ρ)}
    (F : Fun K x qual st f fd) (S : FnScope N ps (defScope st)) (hl : ∀ a, (encA a).length = ps.length) (hn : ps.length + n = N.length)
    (hb : ∀ (cdv : Value) (A : Around) (outer : List Env) (s : Shared) (G H : Hp) (E : XK) (a : α), CxD (cxOf (L2N.CX P w) P w K mg base N qual (defScope st) f cdv A outer s H E) (jx ca E G H) k →
      DSs (cxOf (L2N.CX P w) P w K mg base N qual (defScope st) f cdv A outer s H E) (jx ca E G H) (encA a ++ List.replicate n .un) (defBody st) (Nx a) (L a) R (code a)) :
    FnOk P w K mg base (L2N.CX P w) (k + 1) f fd ps (spF K ca encA fun a => fnO R (code a)) := by
  obtain ⟨oc, od, kV, doc, pm, an, cdv, ct, osl, rfl, lk, hcd⟩ := F.ex
  refine fn_of lk hcd S (fun vs H Q E ⟨a, G, e, d, r⟩ => by rw [d.length, hl a]) fun A outer s H vs Q E hr ⟨a, G, e, d, r⟩ => ?_
  have C : CxD (cxOf (L2N.CX P w) P w K mg base N qual (defScope st) f cdv A outer s H E) (jx ca E G H) k :=
    ⟨rfl, L2N.takes_of rfl rfl rfl rfl, passes_of rfl, hr, S.nd⟩
  refine ⟨_, hb cdv A outer s G H E a C, G, _, ok_start e d (by rw [hl a]; omega), ?_⟩
  have r' : spR K ca G H (fnO R (code a)) Q E := r
  cases hc : code a with
  | ok o =>
    rw [hc] at r'
    cases o with
    | nx b => exact fun σ' G' H' own' sg ok' => r' .non G' H' ok'.base .non
    | rt q =>
      have r2 : spR K ca G H (.ok (R q)) Q E := r'
      show RtK _ _ (R q) Q
      cases hR : R q with
      | fr d => rw [hR] at r2; exact r2
      | ow ds => rw [hR] at r2; exact fun p vs G' H' g h1 h2 h3 h4 => r2 p vs G' H' g h1 h2 h3 h4
      | op ds d => rw [hR] at r2; exact fun t p u vs G' H' g h1 h2 h3 h4 h5 h6 => r2 t p u vs G' H' g h1 h2 h3 h4 h5 h6
    | bk c => exact r'.elim
    | ct c => exact r'.elim
  | er x =>
    rw [hc] at r'
    exact fun cls d σ' G' H' own' sg ok' ra => r' cls d G' H' ok'.base ra
  | no => rw [hc] at r'; exact r'.elim
end
end DL

namespace DL
open PySem PySem.Spec PyProof.Rows L2
variable {X : Cx} {J : Jx}

/-! ### what is walked -/
section
variable (X : Cx) (J : Jx)
def ItOk (G0 : Hp) (It : It) (ds : List D) : Prop := ∀ (i : Nat) (H2 G2 : Hp), Same J.B.H0 H2 → Same G0 G2 → Same G2 H2 →
  (∀ d, ds[i]? = some d → It.go i H2 ∧ ∀ x H3, It.yld i H2 x H3 → ∃ G3, Grow G2 H2 G3 H3 ∧ Den X.K J.ca G3 x d) ∧ (ds.length ≤ i → It.stop i H2)
def FinI {α : Type} (enc : α → D) (n : M (List α)) (σ : L2.St) (G H : Hp) (R : It → Hp → Prop) : Prop := match n with
  | .ok z => ∀ I G' H', Grow G H G' H' → ItOk X J G' I (z.map enc) → R I H'
  | .er x => ErK X.K J.ca x G H fun cls d H' => J.W cls d σ H'
  | .no => False
def tI {α : Type} (S : List Sl) (enc : α → D) (n : M (List α)) : TI := fun σ H R => ∃ G own, OkX X J G H own σ S ∧ FinI X J enc n σ G H R
def DI {α : Type} (S : List Sl) (tg iter : Expr) (enc : α → D) (n : M (List α)) : Prop := PI X tg iter (tI X J S enc n)
/-- a target, by what it does to the slots -/
def DG {α : Type} (tg : Expr) (enc : α → D) (T : α → List Sl → List Sl) : Prop := ∃ g : TG, PG X tg g ∧ ∀ (x : α) (v : V) (G H : Hp) (own : Addr → Option Nat) (σ : L2.St) (S : List Sl) (Q : L2.St → Hp → Prop), OkX X J G H own σ S → Den X.K J.ca G v (enc x) →
  (∀ σ' own', OkX X J G H own' σ' (T x S) → Q σ' H) → g v σ H Q
end
theorem pi_imp {tg e : Expr} {t t' : TI} (h : PI X tg e t) (i : ∀ σ H Q, t' σ H Q → t σ H Q) : PI X tg e t' := ⟨fun pins s σ H Q I q => h.run pins s σ H Q I (i σ H Q q)⟩
section
variable {α β γ δ ρ : Type} {S S' : List Sl} {N : β → List Sl} {L : γ → List Sl} {Lo : δ → List Sl} {R : ρ → RV} {Dn : Ends} {G H G' H' : Hp} {own : Addr → Option Nat} {σ : L2.St} {enc : α → D} {rest body : List Stmt} {st : Stmt} {tg iter e c : Expr} {pos : Pos} {k : Nat}
theorem FinI.wish {R : It → Hp → Prop} : Wish (fun n G H => FinI X J enc n σ G H R) (fun cls d H' => J.W cls d σ H') X.K J.ca := ⟨fun n _ _ _ _ f g => by
  cases n with
  | ok z => exact fun I G2 H2 g2 d => f I G2 H2 (g.trans g2) d
  | er x => exact ErK.grow f g
  | no => exact f, fun _ _ _ f => f, fun _ _ f => f⟩
theorem Den.lst' {v : V} {ds : List D} (d : Den X.K J.ca G v (.lst ds)) : ∃ a vs, v = .ref a ∧ G a = some (.lst vs) ∧ DenL X.K J.ca G vs ds := by
  cases d with
  | lst h t => exact ⟨_, _, rfl, h, t⟩
theorem Den.tup' {v : V} {ds : List D} (d : Den X.K J.ca G v (.tup ds)) : ∃ a vs, v = .ref a ∧ SqT X.K G a vs ∧ DenL X.K J.ca G vs ds := by
  cases d with
  | tup h t => exact ⟨_, _, rfl, h, t⟩
theorem i_list {m : M (List α)} (h : DE X J S iter (eL enc) m) : DI X J S tg iter enc m := pi_imp (pi_list h) fun σ H Q ⟨G, own, ok, fin⟩ => by
  refine ⟨G, own, ok, ?_⟩
  cases m with
  | ok z =>
    intro v G1 H1 g d
    obtain ⟨a, vs, rfl, h1, h2⟩ := Den.lst' d
    refine ⟨a, rfl, ⟨vs, SqL.of (g.gh _ _ h1)⟩, fin _ G1 H1 g fun i H2 G2 s0 s1 s2 => ⟨fun d hd => ?_, fun hl => ?_⟩⟩
    · obtain ⟨x, e1, e2⟩ := h2.get hd
      have q : SqL X.K H2 a vs := SqL.of (s2 _ _ (s1 _ _ h1))
      refine ⟨⟨vs, x, q, e1⟩, fun y H3 ⟨e3, e4⟩ => ⟨G2, ?_, ?_⟩⟩
      · subst e3; exact Grow.refl s2
      · have := e4 vs q
        rw [e1] at this; cases this
        exact e2.mono s1
    · exact ⟨vs, SqL.of (s2 _ _ (s1 _ _ h1)), by rw [h2.length]; exact hl⟩
  | er x => exact fin
  | no => exact fin
theorem i_tup {m : M (List α)} (h : DE X J S iter (eT enc) m) : DI X J S tg iter enc m := pi_imp (pi_tup h) fun σ H Q ⟨G, own, ok, fin⟩ => by
  refine ⟨G, own, ok, ?_⟩
  cases m with
  | ok z =>
    intro v G1 H1 g d
    obtain ⟨a, vs, rfl, h1, h2⟩ := Den.tup' d
    refine ⟨a, rfl, ⟨vs, same_seqT g.gh h1⟩, fin _ G1 H1 g fun i H2 G2 s0 s1 s2 => ⟨fun d hd => ?_, fun hl => ?_⟩⟩
    · obtain ⟨x, e1, e2⟩ := h2.get hd
      have q := same_seqT s2 (same_seqT s1 h1)
      refine ⟨⟨vs, x, q, e1⟩, fun y H3 ⟨e3, e4⟩ => ⟨G2, ?_, ?_⟩⟩
      · subst e3; exact Grow.refl s2
      · have := e4 vs q
        rw [e1] at this; cases this
        exact e2.mono s1
    · exact ⟨vs, same_seqT s2 (same_seqT s1 h1), by rw [h2.length]; exact hl⟩
  | er x => exact fin
  | no => exact fin
/-- a lent list by its name -/
theorem i_ln (i : Nat) {x : Str} {z : List α} (hs : S[i]? = some (.ln (z.map enc))) (hp : PE X (.Name x pos) (tVar i)) : DI X J S tg (.Name x pos) enc (.ok z) := pi_imp (pi_list hp) fun σ H Q ⟨G, own, ok, fin⟩ => by
  obtain ⟨p, vs, h1, h2, h3⟩ := ok.sl i _ hs
  have hp' := ok.h0 _ _ h2
  refine ⟨_, h1, p, rfl, ⟨vs, SqL.of hp'⟩, fin _ G H (Grow.refl ok.gh) fun i H2 G2 s0 s1 s2 => ⟨fun d hd => ?_, fun hl => ?_⟩⟩
  · obtain ⟨x, e1, e2⟩ := h3.get hd
    have q : SqL X.K H2 p vs := SqL.of (s0 _ _ h2)
    refine ⟨⟨vs, x, q, e1⟩, fun y H3 ⟨e3, e4⟩ => ⟨G2, ?_, ?_⟩⟩
    · subst e3; exact Grow.refl s2
    · have := e4 vs q
      rw [e1] at this; cases this
      exact e2.mono s1
  · exact ⟨vs, SqL.of (s0 _ _ h2), by rw [h3.length]; exact hl⟩
/-- the ints of a range -/
def rng (lo hi : Int) : List Int := (List.range (hi - lo).toNat).map fun (i : Nat) => lo + (i : Int)
def okI (i : Int) : Bool := decide (-(2 ^ 62) ≤ i ∧ i < 2 ^ 62)
def rngM (lo hi : Int) : M (List Int) := if okI lo && okI hi then .ok (rng lo hi) else .no
theorem rng_len (lo hi : Int) : (rng lo hi).length = (hi - lo).toNat := by unfold rng; rw [List.length_map, List.length_range]
theorem rng_get {lo hi : Int} {i : Nat} (h : i < (hi - lo).toNat) : (rng lo hi)[i]? = some (lo + i) := by
  unfold rng; rw [List.getElem?_map, List.getElem?_range h]; rfl
theorem itr_ok {lo hi : Int} : ItOk X J G (Itr lo (hi - lo).toNat) ((rng lo hi).map eI) := fun i H2 G2 s0 s1 s2 => by
  refine ⟨fun d hd => ?_, fun hl => ?_⟩
  · have hi' : i < (hi - lo).toNat := by
      have := (List.getElem?_eq_some_iff.mp hd).1
      rwa [List.length_map, rng_len] at this
    rw [List.getElem?_map, rng_get hi'] at hd
    cases hd
    exact ⟨hi', fun x H3 ⟨e, y⟩ => ⟨G2, by subst e; exact Grow.refl s2, by subst y; exact .int _⟩⟩
  · rw [List.length_map, rng_len] at hl
    exact hl
theorem i_range1 {a : Expr} {p : Pos} {m : M Int} (hg : Gl X "range") (hm : X.mg "range" = none) (ha : PA X [a] (tCons (tE X J S eI m) tNil)) (hs : starEach [a] X.env = [(false, eval a X.env)] := by rfl) : DI X J S tg (.Call (.Name "range" p) [a] [] pos) eI (mb m fun n => rngM 0 n) :=
  pi_imp (pi_range1 hg hm ha hs) fun σ H Q ⟨G, own, ok, fin⟩ =>
    E_bind FinI.wish ok fin fun n v G1 H1 g ok1 d r => by
      cases d
      unfold rngM at r
      split at r
      · rename_i h
        simp only [okI, Bool.and_eq_true, decide_eq_true_eq] at h
        refine ⟨n, rfl, h.2.1, h.2.2, ?_⟩
        have q := r (Itr 0 (n - 0).toNat) G1 H1 (Grow.refl ok1.gh) itr_ok
        rwa [show n - 0 = n by omega] at q
      · exact r.elim
theorem i_range2 {a b : Expr} {p : Pos} {ma mb' : M Int} (hg : Gl X "range") (hm : X.mg "range" = none) (ha : PA X [a, b] (tCons (tE X J S eI ma) (tCons (tE X J S eI mb') tNil))) (hs : starEach [a, b] X.env = [(false, eval a X.env), (false, eval b X.env)] := by rfl) (hs2 : starEach [b] X.env = [(false, eval b X.env)] := by rfl) :
    DI X J S tg (.Call (.Name "range" p) [a, b] [] pos) eI (mb ma fun i => mb mb' fun j => rngM i j) :=
  pi_imp (pi_range2 hg hm ha hs hs2) fun σ H Q ⟨G, own, ok, fin⟩ =>
    E_bind FinI.wish ok fin fun i v G1 H1 g ok1 d r => E_bind FinI.wish ok1 r fun j u G2 H2 g2 ok2 d2 r => by
      cases d
      cases d2
      unfold rngM at r
      split at r
      · rename_i h
        simp only [okI, Bool.and_eq_true, decide_eq_true_eq] at h
        exact ⟨i, j, rfl, ⟨h.1.1, h.1.2, h.2.1, h.2.2⟩, r (Itr i (j - i).toNat) G2 H2 (Grow.refl ok2.gh) itr_ok⟩
      · exact r.elim
theorem g_name {i : Nat} {x : Str} (hN : X.N.Nodup) (hi : X.N[i]? = some x := by rfl) (hx : Loc X.env.scope x := by first | exact Or.inl rfl | exact Or.inr rfl) (hf : X.fn x = true ∨ X.env.scope.names.lookup x = some .local := by first | exact .inl rfl | exact .inr rfl) :
    DG X J (.Name x pos) enc (fun z S => S.set i (.fr (enc z))) := ⟨_, pg_name hN hi hx hf, fun _ _ G H own σ S Q ok d q => q _ own (ok.setF d)⟩

theorem ss_for {m : M (List α)} {f : α → γ → M (Out γ γ ρ)} {T : α → List Sl → List Sl} {g : γ → M (Out β δ ρ)} (s0 : γ) (C : CxD X J k) (hi : DI X J S tg iter enc m) (hg : DG X J tg enc T) (hw0 : Wk S (L s0)) (hw : Wk S J.Sx)
    (hb : ∀ x s, DSs X J (T x (L s)) body L L R (f x s)) (hr : ∀ s, DSs X J (L s) rest N Lo R (g s)) (hs : ∀ x, foldedSetIterable iter X.env x = pure x := by intro _; rfl) :
    DSs X J S (.For tg iter body [] pos :: rest) N Lo R (mb m fun zs => sq (forM f zs s0) g) := by
  rw [← sq_mb]
  obtain ⟨gt, hg, hgt⟩ := hg
  refine ss_cons (N := L) (ps_imp (ps_for C.po C.calm hi hg (pss_ex fun x => pss_ex fun s => hb x s) hs) fun Dn σ H ⟨G, own, ok, fin⟩ => ?_) hr
  refine ⟨G, own, ok, ?_⟩
  have W := FinS.wish (X := X) (J := J) (N := L) (L := Lo) (R := R) (Dn := Dn) (own := own) (σ := σ) hw
  cases m with
  | er x => exact W.2.1 x G H ⟨fin, ok⟩
  | no => exact fin.elim
  | ok zs =>
    intro I G1 H1 gr io
    have fin : FinS X J L Lo R Dn G (forM f zs s0) := fin
    refine ⟨fun i m σ2 H2 => m = zs.length - i ∧ i ≤ zs.length ∧ ∃ s G2 own2, OkX X J G2 H2 own2 σ2 (L s) ∧ Same G1 G2 ∧ FinS X J L Lo R Dn G2 (forM f (zs.drop i) s), ⟨_, rfl, Nat.zero_le _, s0, G1, own, (ok.grow gr).weak hw0, Same.refl _, by rw [List.drop_zero]; exact fin.mono gr.g⟩, ?_⟩
    rintro i m σ2 H2 ⟨rfl, hile, s, G2, own2, ok2, s12, fin2⟩
    by_cases hlt : i < zs.length
    · have hd : (zs.map enc)[i]? = some (enc zs[i]) := by rw [List.getElem?_map, List.getElem?_eq_getElem hlt]; rfl
      obtain ⟨go, yld⟩ := (io i H2 G2 ok2.h0 s12 ok2.gh).1 _ hd
      rw [List.drop_eq_getElem_cons hlt] at fin2
      refine .inr ⟨go, fun σ' H' => zs.length - (i + 1) = zs.length - (i + 1) ∧ i + 1 ≤ zs.length ∧ ∃ s G2 own2, OkX X J G2 H' own2 σ' (L s) ∧ Same G1 G2 ∧ FinS X J L Lo R Dn G2 (forM f (zs.drop (i + 1)) s), fun σ' H' n => ⟨_, by omega, n⟩, fun x H3 y => ?_⟩
      obtain ⟨G3, gr3, den⟩ := yld x H3 y
      refine hgt zs[i] x G3 H3 own2 σ2 (L s) _ (ok2.grow gr3) den fun σ4 own4 ok4 => ⟨zs[i], s, G3, own4, ok4, ?_⟩
      have again : ∀ {s' : γ}, FinS X J L Lo R Dn G2 (forM f (zs.drop (i + 1)) s') → ∀ σ' G' H' own', Same G3 G' → OkX X J G' H' own' σ' (L s') → zs.length - (i + 1) = zs.length - (i + 1) ∧ i + 1 ≤ zs.length ∧ ∃ s G2 own2, OkX X J G2 H' own2 σ' (L s) ∧ Same G1 G2 ∧ FinS X J L Lo R Dn G2 (forM f (zs.drop (i + 1)) s) :=
        fun {s'} q σ' G' H' own' sg ok' => ⟨rfl, hlt, s', G', own', ok', s12.trans (gr3.g.trans sg), q.mono (gr3.g.trans sg)⟩
      unfold forM at fin2
      cases hf : f zs[i] s with
      | ok o =>
        rw [hf] at fin2
        cases o with
        | nx s' => exact fun σ' G' H' own' sg ok' => again fin2 σ' G' H' own' sg ok'
        | ct s' => exact fun σ' G' H' own' sg ok' => again fin2 σ' G' H' own' sg ok'
        | bk s' => exact fun σ' G' H' own' sg ok' => fin2 σ' G' H' own' (gr3.g.trans sg) ok'
        | rt r => exact fin2
      | er x => rw [hf] at fin2; exact FinS.mono (n := .er x) (N := L) (L := L) (R := R) (Dn := ⟨_, _, _, _⟩) fin2 gr3.g
      | no => rw [hf] at fin2; exact fin2.elim
    · have he : i = zs.length := by omega
      subst he
      rw [List.drop_length] at fin2
      exact .inl ⟨(io _ H2 G2 ok2.h0 s12 ok2.gh).2 (by rw [List.length_map]; exact Nat.le_refl _), fin2 σ2 G2 H2 own2 (Same.refl _) ok2⟩
theorem ss_while {mc : γ → M Bool} {f : γ → M (Out γ γ ρ)} {g : γ → M (Out β δ ρ)} (n : Nat) (s0 : γ) (C : CxD X J k) (hc : ∀ s, DT X J (L s) c (mc s)) (hw0 : Wk S (L s0)) (hw : ∀ s, Wk (L s) J.Sx)
    (hb : ∀ s, DSs X J (L s) body L L R (f s)) (hr : ∀ s, DSs X J (L s) rest N Lo R (g s)) :
    DSs X J S (.While c body [] pos :: rest) N Lo R (sq (whileM mc f n s0) g) := by
  have hc' : PT X c (fun σ H Q => ∃ s, tT X J (L s) (mc s) σ H Q) := ⟨fun pins s σ H Q I ⟨z, q⟩ => (hc z).run pins s σ H Q I q⟩
  refine ss_cons (N := L) (ps_imp (ps_while C.po hc' (pss_ex hb)) fun Dn σ H ⟨G, own, ok, fin⟩ => ?_) hr
  refine ⟨fun m σ2 H2 => ∃ s G2 own2, OkX X J G2 H2 own2 σ2 (L s) ∧ FinS X J L Lo R Dn G2 (whileM mc f m s), ⟨n, s0, G, own, ok.weak hw0, fin⟩, ?_⟩
  rintro m σ2 H2 ⟨s, G2, own2, ok2, fin2⟩
  cases m with
  | zero => exact fin2.elim
  | succ m =>
    unfold whileM at fin2
    refine ⟨s, T_bind (FinS.wish (hw s)) ok2 ⟨fin2, ok2⟩ fun b G3 H3 gr ok3 r => ?_⟩
    cases b with
    | false => exact r.1 σ2 G3 H3 own2 (Same.refl _) ok3
    | true =>
      have fin3 := r.1
      simp only [if_true] at fin3
      refine ⟨fun σ' H' => ∃ s G2 own2, OkX X J G2 H' own2 σ' (L s) ∧ FinS X J L Lo R Dn G2 (whileM mc f m s), fun σ' H' q => ⟨m, Nat.lt_succ_self m, q⟩, s, G3, own2, ok3, ?_⟩
      cases hf : f s with
      | ok o =>
        rw [hf] at fin3
        cases o with
        | nx s' => exact fun σ' G' H' own' sg ok' => ⟨s', G', own', ok', fin3.mono sg⟩
        | ct s' => exact fun σ' G' H' own' sg ok' => ⟨s', G', own', ok', fin3.mono sg⟩
        | bk s' => exact fun σ' G' H' own' sg ok' => fin3 σ' G' H' own' sg ok'
        | rt r => exact fin3
      | er x => rw [hf] at fin3; exact fin3
      | no => rw [hf] at fin3; exact fin3.elim
end
end DL

namespace DL
open PySem PySem.Spec PyProof.Rows L2
variable {X : Cx} {J : Jx}
section
variable {α β γ δ ρ : Type} {S : List Sl} {enc : α → D} {enb : β → D} {a b c e : Expr} {es : List Expr} {pos p : Pos} {k j : Nat} {ma mb' : M Int}

/-! ### numbers -/
def mulM (i j : Int) : M Int := if i.natAbs < 2 ^ 64 ∨ j.natAbs < 2 ^ 64 then .ok (i * j) else .no
def divM (i j : Int) : M Int := if 0 < j ∧ j < 2 ^ 1000 then .ok (i / j) else .no
def modM (i j : Int) : M Int := if 0 < j then .ok (i % j) else .no
def powM (i j : Int) : M Int := if 0 ≤ j ∧ j ≤ 1000 ∧ i.natAbs < 2 ^ 64 then .ok (i ^ j.toNat) else .no
theorem e_rI0 {op : Operator} {g : Int → Int → Int} (ho : OpR X (binaryOp op) (rI0 fun i j => .int (g i j))) (ha : DE X J S a eI ma) (hb : DE X J S b eI mb') : DE X J S (.BinOp a op b pos) eI (mb ma fun i => mb mb' fun j => .ok (g i j)) :=
  pe_imp (pe_op ho ha hb) fun σ H Q ⟨G, own, ok, fin⟩ => E_bind Fin.wish ok fin fun i v G1 H1 g1 ok1 d1 r => E_bind Fin.wish ok1 r fun j u G2 H2 g2 ok2 d2 r => by
    cases d1; cases d2
    exact ⟨i, j, rfl, rfl, r _ G2 H2 (Grow.refl ok2.gh) (.int _)⟩
theorem e_rI {op : Operator} {g : Int → Int → Int} {C : Int → Int → Prop} {gm : Int → Int → M Int} (ho : OpR X (binaryOp op) (rI C fun i j => .int (g i j))) (hg : ∀ i j, gm i j = .ok (g i j) ∧ C i j ∨ gm i j = .no) (ha : DE X J S a eI ma) (hb : DE X J S b eI mb') :
    DE X J S (.BinOp a op b pos) eI (mb ma fun i => mb mb' fun j => gm i j) :=
  pe_imp (pe_op ho ha hb) fun σ H Q ⟨G, own, ok, fin⟩ => E_bind Fin.wish ok fin fun i v G1 H1 g1 ok1 d1 r => E_bind Fin.wish ok1 r fun j u G2 H2 g2 ok2 d2 r => by
    cases d1; cases d2
    rcases hg i j with ⟨e, h⟩ | e
    · rw [e] at r
      exact ⟨i, j, rfl, rfl, h, r _ G2 H2 (Grow.refl ok2.gh) (.int _)⟩
    · rw [e] at r; exact r.elim
theorem e_add (ha : DE X J S a eI ma) (hb : DE X J S b eI mb') : DE X J S (.BinOp a .Add b pos) eI (mb ma fun i => mb mb' fun j => .ok (i + j)) := e_rI0 op_add ha hb
theorem e_sub (ha : DE X J S a eI ma) (hb : DE X J S b eI mb') : DE X J S (.BinOp a .Sub b pos) eI (mb ma fun i => mb mb' fun j => .ok (i - j)) := e_rI0 op_sub ha hb
theorem e_mul (ha : DE X J S a eI ma) (hb : DE X J S b eI mb') : DE X J S (.BinOp a .Mult b pos) eI (mb ma fun i => mb mb' fun j => mulM i j) :=
  e_rI (op_mul) (fun i j => by
    unfold mulM
    split
    · rename_i h
      refine .inl ⟨rfl, ?_⟩
      rcases h with h | h
      · left; omega
      · right; omega
    · exact .inr rfl) ha hb
theorem e_div (ha : DE X J S a eI ma) (hb : DE X J S b eI mb') : DE X J S (.BinOp a .FloorDiv b pos) eI (mb ma fun i => mb mb' fun j => divM i j) :=
  e_rI (op_fdivW) (fun i j => by
    unfold divM
    split
    · rename_i h
      exact .inl ⟨rfl, wide_div (b := 1000) h.1 (by have := h.2; omega) (by decide) (by decide)⟩
    · exact .inr rfl) ha hb
theorem e_mod (ha : DE X J S a eI ma) (hb : DE X J S b eI mb') : DE X J S (.BinOp a .Mod b pos) eI (mb ma fun i => mb mb' fun j => modM i j) :=
  e_rI (op_mod) (fun i j => by
    unfold modM
    split
    · rename_i h; exact .inl ⟨rfl, h⟩
    · exact .inr rfl) ha hb
theorem e_pow (ha : DE X J S a eI ma) (hb : DE X J S b eI mb') : DE X J S (.BinOp a .Pow b pos) eI (mb ma fun i => mb mb' fun j => powM i j) :=
  e_rI (op_pow) (fun i j => by
    unfold powM
    split
    · rename_i h; exact .inl ⟨rfl, h.1, by have := h.2.1; omega, h.2.2⟩
    · exact .inr rfl) ha hb
theorem e_neg (ha : DE X J S a eI ma) : DE X J S (.UnaryOp .USub a pos) eI (mb ma fun i => .ok (-i)) :=
  pe_imp (pe_un un_neg ha) fun σ H Q ⟨G, own, ok, fin⟩ => E_bind Fin.wish ok fin fun i v G1 H1 g1 ok1 d1 r => by
    cases d1
    exact ⟨i, rfl, r _ G1 H1 (Grow.refl ok1.gh) (.int _)⟩

/-! ### comparisons, by values -/
/-- what a comparison tells of two values -/
def CmpD (X : Cx) (J : Jx) (op : CmpOp) {α β : Type} (enc : α → D) (enb : β → D) (t : α → β → Bool) : Prop :=
  ∃ r : R2, OpR X (compareOp op) r ∧ ∀ (x : α) (y : β) (v u : V) (G H : Hp) (own : Addr → Option Nat) (Q : VK), Same G H → DenB X J G H own v (enc x) → DenB X J G H own u (enb y) → Q (.bl (t x y)) H → r v u H Q
theorem e_cmp {op : CmpOp} {t : α → β → Bool} {m : M α} {n : M β} (hc : CmpD X J op enc enb t) (ha : DB X J S a enc m) (hb : DB X J S b enb n) (hm : behindInMarks op b = false) : DE X J S (.Compare a [op] [b] pos) eB (mb m fun x => mb n fun y => .ok (t x y)) := by
  obtain ⟨r, ho, hr⟩ := hc
  exact pe_imp (pe_cmpR ho ha hb hm) fun σ H Q ⟨G, own, ok, fin⟩ => B_bind Fin.wish ok fin fun x v G1 H1 g1 ok1 d1 r1 => B_bind Fin.wish ok1 r1 fun y u G2 H2 g2 ok2 d2 r2 =>
    hr x y v u G2 H2 own Q ok2.gh (d1.grow g2) d2 (r2 _ G2 H2 (Grow.refl ok2.gh) (.bl _))
theorem t_cmp {op : CmpOp} {t : α → β → Bool} {m : M α} {n : M β} (hc : CmpD X J op enc enb t) (ha : DB X J S a enc m) (hb : DB X J S b enb n) (hm : behindInMarks op b = false) : DT X J S (.Compare a [op] [b] pos) (mb m fun x => mb n fun y => .ok (t x y)) := by
  obtain ⟨r, ho, hr⟩ := hc
  exact pt_imp (pt_cmpR ho ha hb hm) fun σ H Q ⟨G, own, ok, fin⟩ => B_bind FinT.wish ok fin fun x v G1 H1 g1 ok1 d1 r1 => B_bind FinT.wish ok1 r1 fun y u G2 H2 g2 ok2 d2 r2 =>
    hr x y v u G2 H2 own _ ok2.gh (d1.grow g2) d2 ⟨_, rfl, r2 G2 H2 (Grow.refl ok2.gh)⟩
theorem DenB.int {G H : Hp} {own : Addr → Option Nat} {v : V} {i : Int} (d : DenB X J G H own v (eI i)) : v = .int i := by
  rcases d with d | ⟨_, _, _, _, h, _⟩
  · cases d; rfl
  · cases h
theorem DenB.bl {G H : Hp} {own : Addr → Option Nat} {v : V} {i : Bool} (d : DenB X J G H own v (eB i)) : v = .bl i := by
  rcases d with d | ⟨_, _, _, _, h, _⟩
  · cases d; rfl
  · cases h
theorem DenB.str {G H : Hp} {own : Addr → Option Nat} {v : V} {i : Str} (d : DenB X J G H own v (eS i)) : v = .str i := by
  rcases d with d | ⟨_, _, _, _, h, _⟩
  · cases d; rfl
  · cases h
theorem c_lt : CmpD X J .Lt eI eI fun i j => decide (i < j) := ⟨_, op_lt, fun x y v u G H own Q _ d1 d2 q => ⟨x, y, d1.int, d2.int, q⟩⟩
theorem c_le : CmpD X J .LtE eI eI fun i j => decide (i ≤ j) := ⟨_, op_le, fun x y v u G H own Q _ d1 d2 q => ⟨x, y, d1.int, d2.int, q⟩⟩
theorem c_gt : CmpD X J .Gt eI eI fun i j => decide (j < i) := ⟨_, op_gt, fun x y v u G H own Q _ d1 d2 q => ⟨x, y, d1.int, d2.int, q⟩⟩
theorem c_ge : CmpD X J .GtE eI eI fun i j => decide (j ≤ i) := ⟨_, op_ge, fun x y v u G H own Q _ d1 d2 q => ⟨x, y, d1.int, d2.int, q⟩⟩
theorem c_eq : CmpD X J .Eq eI eI fun i j => decide (i = j) := ⟨_, op_eq, fun x y v u G H own Q _ d1 d2 q => by
  rw [d1.int, d2.int]
  refine ⟨rfl, ?_⟩
  rwa [show decide (V.int x = V.int y) = decide (x = y) by rw [dec_int, Bool.beq_eq_decide_eq]]⟩
theorem c_ne : CmpD X J .NotEq eI eI fun i j => !decide (i = j) := ⟨_, op_ne, fun x y v u G H own Q _ d1 d2 q => by
  rw [d1.int, d2.int]
  refine ⟨rfl, ?_⟩
  rwa [show decide (V.int x = V.int y) = decide (x = y) by rw [dec_int, Bool.beq_eq_decide_eq]]⟩
theorem c_eqB : CmpD X J .Eq eB eB fun i j => decide (i = j) := ⟨_, op_eq, fun x y v u G H own Q _ d1 d2 q => by
  rw [d1.bl, d2.bl]
  refine ⟨rfl, ?_⟩
  rwa [show decide (V.bl x = V.bl y) = decide (x = y) by rw [dec_bl, Bool.beq_eq_decide_eq]]⟩
theorem c_neB : CmpD X J .NotEq eB eB fun i j => !decide (i = j) := ⟨_, op_ne, fun x y v u G H own Q _ d1 d2 q => by
  rw [d1.bl, d2.bl]
  refine ⟨rfl, ?_⟩
  rwa [show decide (V.bl x = V.bl y) = decide (x = y) by rw [dec_bl, Bool.beq_eq_decide_eq]]⟩
theorem c_eqS : CmpD X J .Eq eS eS fun i j => decide (i = j) := ⟨_, op_eq, fun x y v u G H own Q _ d1 d2 q => by
  rw [d1.str, d2.str]
  refine ⟨rfl, ?_⟩
  rwa [show decide (V.str x = V.str y) = decide (x = y) by
    by_cases h : x = y
    · subst h; simp
    · rw [decide_eq_false h, decide_eq_false fun q => h (V.str.inj q)]]⟩
theorem c_neS : CmpD X J .NotEq eS eS fun i j => !decide (i = j) := ⟨_, op_ne, fun x y v u G H own Q _ d1 d2 q => by
  rw [d1.str, d2.str]
  refine ⟨rfl, ?_⟩
  rwa [show decide (V.str x = V.str y) = decide (x = y) by
    by_cases h : x = y
    · subst h; simp
    · rw [decide_eq_false h, decide_eq_false fun q => h (V.str.inj q)]]⟩
/-- x is None, x is not None, x of an optional kind -/
def isNon : D → Bool
  | .non => true
  | _ => false
theorem non_of {G H : Hp} {own : Addr → Option Nat} {v : V} {d : D} (h : DenB X J G H own v d) : decide (v = .non) = isNon d := by
  rcases h with h | ⟨p, vs, ds, rfl, rfl, _⟩
  · cases h <;> simp [isNon]
  · simp [isNon]
theorem eO_non {o : Option α} (hn : ∀ x, enc x ≠ .non) : isNon (eO enc o) = o.isNone := by
  cases o with
  | none => rfl
  | some x =>
    show isNon (enc x) = false
    have h := hn x
    cases q : enc x <;> first | rfl | exact absurd q h
theorem c_isN (hn : ∀ x, enc x ≠ .non) : CmpD X J .Is (eO enc) eU fun o _ => o.isNone := ⟨_, op_isN, fun x y v u G H own Q _ d1 d2 q => by
  have hu : u = .non := by
    rcases d2 with d | ⟨_, _, _, _, h, _⟩
    · cases d; rfl
    · cases h
  refine ⟨hu, ?_⟩
  rw [non_of d1, eO_non hn]; exact q⟩
theorem c_notN (hn : ∀ x, enc x ≠ .non) : CmpD X J .IsNot (eO enc) eU fun o _ => o.isSome := ⟨_, op_notN, fun x y v u G H own Q _ d1 d2 q => by
  have hu : u = .non := by
    rcases d2 with d | ⟨_, _, _, _, h, _⟩
    · cases d; rfl
    · cases h
  refine ⟨hu, ?_⟩
  rw [non_of d1, eO_non hn]
  cases x <;> exact q⟩
theorem inV_ints (i : Int) (ns : List Int) : inV (.int i) (ns.map V.int) = decide (i ∈ ns) := by
  unfold inV
  rw [List.any_map, Bool.eq_iff_iff, List.any_eq_true, decide_eq_true_eq]
  constructor
  · rintro ⟨n, hn, e⟩
    have e' : (n == i) = true := e
    rw [beq_iff_eq] at e'
    exact e' ▸ hn
  · intro h
    exact ⟨i, h, by show (i == i) = true; rw [beq_iff_eq]⟩
theorem flat_ints (ns : List Int) : (ns.map V.int).all flatV = true := by
  rw [List.all_map]
  exact List.all_eq_true.mpr fun _ _ => rfl
theorem c_in : CmpD X J .In eI (eL eI) fun i ns => decide (i ∈ ns) := ⟨_, op_in_seq, fun x y v u G H own Q sg d1 d2 q => by
  obtain ⟨p, vs, rfl, h1, h2⟩ := DenB.list sg d2
  rw [DenL.ints h2] at h1
  rw [d1.int]
  refine ⟨p, _, rfl, .inl (SqL.of h1), rfl, flat_ints y, ?_⟩
  rw [inV_ints]; exact q⟩
theorem c_notIn : CmpD X J .NotIn eI (eL eI) fun i ns => !decide (i ∈ ns) := ⟨_, op_notIn_seq, fun x y v u G H own Q sg d1 d2 q => by
  obtain ⟨p, vs, rfl, h1, h2⟩ := DenB.list sg d2
  rw [DenL.ints h2] at h1
  rw [d1.int]
  refine ⟨p, _, rfl, .inl (SqL.of h1), rfl, flat_ints y, ?_⟩
  rw [inV_ints]; exact q⟩
theorem DenB.tup {G H : Hp} {own : Addr → Option Nat} {v : V} {ds : List D} (e : Same G H) (d : DenB X J G H own v (.tup ds)) : ∃ a vs, v = .ref a ∧ SqT X.K H a vs ∧ DenL X.K J.ca G vs ds := by
  rcases d with d | ⟨_, _, _, _, h, _⟩
  · exact Den.tuple e d
  · cases h
theorem c_inT : CmpD X J .In eI (eT eI) fun i ns => decide (i ∈ ns) := ⟨_, op_in_seq, fun x y v u G H own Q sg d1 d2 q => by
  obtain ⟨p, vs, rfl, h1, h2⟩ := DenB.tup sg d2
  rw [DenL.ints h2] at h1
  rw [d1.int]
  refine ⟨p, _, rfl, .inr h1, rfl, flat_ints y, ?_⟩
  rw [inV_ints]; exact q⟩
theorem c_notInT : CmpD X J .NotIn eI (eT eI) fun i ns => !decide (i ∈ ns) := ⟨_, op_notIn_seq, fun x y v u G H own Q sg d1 d2 q => by
  obtain ⟨p, vs, rfl, h1, h2⟩ := DenB.tup sg d2
  rw [DenL.ints h2] at h1
  rw [d1.int]
  refine ⟨p, _, rfl, .inr h1, rfl, flat_ints y, ?_⟩
  rw [inV_ints]; exact q⟩

/-! ### tests, and, or, not -/
def DW (X : Cx) (J : Jx) (S : List Sl) (e : Expr) (n : M Bool) : Prop := PW X e (tT X J S n)
theorem t_val {m : M Bool} (h : DE X J S e eB m) (he : ∀ whole, isTrue e X.env whole = (do let v ← whole; standAt e.pos; holding [v] (truthy v)) := by intro _; rfl) : DT X J S e m :=
  pt_imp (pt_val h he) fun σ H Q ⟨G, own, ok, fin⟩ => by
    refine ⟨G, own, ok, ?_⟩
    cases m with
    | ok z => exact fun v G' H' g d => by cases d; exact ⟨z, rfl, fin G' H' g⟩
    | er x => exact fin
    | no => exact fin
theorem t_w {m : M Bool} (h : DW X J S e m) : DT X J S e m := h.pt
theorem w_and1 {m : M Bool} (h : DT X J S a m) : DW X J S (.BoolOp .And [a] pos) m := pw_and1 h
theorem w_or1 {m : M Bool} (h : DT X J S a m) : DW X J S (.BoolOp .Or [a] pos) m := pw_or1 h
theorem pw_imp {e : Expr} {t t' : TT} (h : PW X e t) (i : ∀ σ H Q, t' σ H Q → t σ H Q) : PW X e t' := ⟨fun wh pins s σ H Q I q => h.run wh pins s σ H Q I (i σ H Q q)⟩
theorem w_and {m n : M Bool} (h : DT X J S a m) (h2 : DW X J S (.BoolOp .And (b :: es) pos) n) : DW X J S (.BoolOp .And (a :: b :: es) pos) (mb m fun x => if x = true then n else .ok false) :=
  pw_imp (pw_and h h2) fun σ H Q ⟨G, own, ok, fin⟩ => T_bind FinT.wish ok fin fun x G1 H1 g ok1 r => by
    cases x with
    | true => exact ⟨G1, own, ok1, r⟩
    | false => exact r G1 H1 (Grow.refl ok1.gh)
theorem w_or {m n : M Bool} (h : DT X J S a m) (h2 : DW X J S (.BoolOp .Or (b :: es) pos) n) : DW X J S (.BoolOp .Or (a :: b :: es) pos) (mb m fun x => if x = true then .ok true else n) :=
  pw_imp (pw_or h h2) fun σ H Q ⟨G, own, ok, fin⟩ => T_bind FinT.wish ok fin fun x G1 H1 g ok1 r => by
    cases x with
    | false => exact ⟨G1, own, ok1, r⟩
    | true => exact r G1 H1 (Grow.refl ok1.gh)
theorem t_not {m : M Bool} (h : DT X J S a m) : DT X J S (.UnaryOp .Not a pos) (mb m fun x => .ok (!x)) :=
  pt_imp (pt_not h) fun σ H Q ⟨G, own, ok, fin⟩ => T_bind FinT.wish ok fin fun x G1 H1 g ok1 r => r G1 H1 (Grow.refl ok1.gh)
theorem e_one {m : M Bool} {o : BoolOp} (h : DE X J S a eB m) : DE X J S (.BoolOp o [a] pos) eB m := pe_one h
theorem e_and {m n : M Bool} (h : DE X J S a eB m) (h2 : DE X J S (.BoolOp .And (b :: es) pos) eB n) : DE X J S (.BoolOp .And (a :: b :: es) pos) eB (mb m fun x => if x = true then n else .ok false) :=
  pe_imp (pe_and h h2) fun σ H Q ⟨G, own, ok, fin⟩ => E_bind Fin.wish ok fin fun x v G1 H1 g ok1 d r => by
    cases d
    refine ⟨x, rfl, ?_⟩
    cases x with
    | true => exact ⟨G1, own, ok1, r⟩
    | false => exact r _ G1 H1 (Grow.refl ok1.gh) (.bl _)
theorem e_or {m n : M Bool} (h : DE X J S a eB m) (h2 : DE X J S (.BoolOp .Or (b :: es) pos) eB n) : DE X J S (.BoolOp .Or (a :: b :: es) pos) eB (mb m fun x => if x = true then .ok true else n) :=
  pe_imp (pe_or h h2) fun σ H Q ⟨G, own, ok, fin⟩ => E_bind Fin.wish ok fin fun x v G1 H1 g ok1 d r => by
    cases d
    refine ⟨x, rfl, ?_⟩
    cases x with
    | false => exact ⟨G1, own, ok1, r⟩
    | true => exact r _ G1 H1 (Grow.refl ok1.gh) (.bl _)
theorem e_not {m : M Bool} (h : DE X J S a eB m) : DE X J S (.UnaryOp .Not a pos) eB (mb m fun x => .ok (!x)) :=
  pe_imp (pe_not h) fun σ H Q ⟨G, own, ok, fin⟩ => E_bind Fin.wish ok fin fun x v G1 H1 g ok1 d r => by
    cases d
    exact ⟨x, rfl, r _ G1 H1 (Grow.refl ok1.gh) (.bl _)⟩
theorem e_ifE {mc : M Bool} {m n : M α} (hc : DT X J S c mc) (ha : DE X J S a enc m) (hb : DE X J S b enc n) : DE X J S (.IfExp c a b pos) enc (mb mc fun x => if x = true then m else n) :=
  pe_imp (pe_ifExp hc ha hb) fun σ H Q ⟨G, own, ok, fin⟩ => T_bind Fin.wish ok fin fun x G1 H1 g ok1 r => by
    cases x with
    | true => exact ⟨G1, own, ok1, r⟩
    | false => exact ⟨G1, own, ok1, r⟩
/-- a list as a test -/
theorem t_list {m : M (List α)} (ha : DB X J S a (eL enc) m) (he : ∀ whole, isTrue a X.env whole = (do let v ← whole; standAt a.pos; holding [v] (truthy v)) := by intro _; rfl) : DT X J S a (mb m fun xs => .ok (!xs.isEmpty)) :=
  pt_imp (pt_truth ha he) fun σ H Q ⟨G, own, ok, fin⟩ => B_bind FinT.wish ok fin fun xs v G1 H1 g ok1 d r => by
    obtain ⟨p, vs, rfl, h1, h2⟩ := DenB.list ok1.gh d
    refine ⟨_, .inl ⟨vs, SqL.of h1, rfl⟩, ?_⟩
    have hl := h2.length
    rw [List.length_map] at hl
    have e : (!vs.isEmpty) = !xs.isEmpty := by
      cases vs <;> cases xs <;> simp at hl ⊢
    rw [e]
    exact r G1 H1 (Grow.refl ok1.gh)

/-! ### items, cuts, fields -/
def ixM {α : Type} (xs : List α) (i : Int) : M α := match atI xs i with
  | some x => .ok x
  | none => .no
theorem DenL.atI {K : PySem.W.Frag} {ca : Str → Addr} {H : Hp} {vs : List V} {xs : List α} {i : Int} {x : α} (h : DenL K ca H vs (xs.map enc)) (e : atI xs i = some x) : ∃ v, L2.atI vs i = some v ∧ Den K ca H v (enc x) := by
  have hl := h.length
  rw [List.length_map] at hl
  unfold L2.atI at e ⊢
  rw [hl]
  cases q : ixN xs.length i with
  | none => rw [q] at e; cases e
  | some j =>
    rw [q] at e
    have e' : xs[j]? = some x := e
    exact h.get (by rw [List.getElem?_map, e']; rfl)
theorem e_ixL {m : M (List α)} (ha : DB X J S a (eL enc) m) (hb : DE X J S b eI mb') (hs : PlainIx b := by intro _ _; rfl) : DE X J S (.Subscript a b pos) enc (mb m fun xs => mb mb' fun i => ixM xs i) :=
  pe_imp (pe_ix ix_list ha hb hs) fun σ H Q ⟨G, own, ok, fin⟩ => B_bind Fin.wish ok fin fun xs v G1 H1 g ok1 d r => E_bind Fin.wish ok1 r fun i u G2 H2 g2 ok2 d2 r2 => by
    cases d2
    obtain ⟨p, vs, rfl, h1, h2⟩ := DenB.list ok2.gh (d.grow g2)
    unfold ixM at r2
    cases hx : L2.atI xs i with
    | none => rw [hx] at r2; exact r2.elim
    | some x =>
      rw [hx] at r2
      obtain ⟨w, e1, e2⟩ := h2.atI hx
      exact ⟨p, vs, i, w, rfl, rfl, SqL.of h1, e1, r2 w G2 H2 (Grow.refl ok2.gh) e2⟩
theorem e_ixT {m : M (List α)} (ha : DE X J S a (eT enc) m) (hb : DE X J S b eI mb') (hs : PlainIx b := by intro _ _; rfl) : DE X J S (.Subscript a b pos) enc (mb m fun xs => mb mb' fun i => ixM xs i) :=
  pe_imp (pe_ix ix_tup ha hb hs) fun σ H Q ⟨G, own, ok, fin⟩ => E_bind Fin.wish ok fin fun xs v G1 H1 g ok1 d r => E_bind Fin.wish ok1 r fun i u G2 H2 g2 ok2 d2 r2 => by
    cases d2
    obtain ⟨p, vs, rfl, h1, h2⟩ := Den.tuple (X := X) ok2.gh (d.mono g2.g)
    unfold ixM at r2
    cases hx : L2.atI xs i with
    | none => rw [hx] at r2; exact r2.elim
    | some x =>
      rw [hx] at r2
      obtain ⟨w, e1, e2⟩ := h2.atI hx
      exact ⟨p, vs, i, w, rfl, rfl, h1, e1, r2 w G2 H2 (Grow.refl ok2.gh) e2⟩
/-- a tuple of a written length, at a written place -/
theorem e_ixP {m : M α} {g : α → β} {ds : α → List D} (jj : Nat) {kk : Nat} {pk : Pos} (ha : DE X J S a enc m) (hd : ∀ x, enc x = .tup (ds x) ∧ (ds x)[jj]? = some (enb (g x))) : DE X J S (.Subscript a (.Constant (.int (jj : Int)) kk pk) pos) enb (mb m fun x => .ok (g x)) :=
  pe_imp (pe_ix ix_tup ha pe_int (by intro _ _; rfl)) fun σ H Q ⟨G, own, ok, fin⟩ => E_bind Fin.wish ok fin fun x v G1 H1 g1 ok1 d r => by
    rw [(hd x).1] at d
    obtain ⟨p, vs, rfl, h1, h2⟩ := Den.tuple (X := X) ok1.gh d
    obtain ⟨w, e1, e2⟩ := h2.get (hd x).2
    exact ⟨p, vs, jj, w, rfl, rfl, h1, atI_nat e1, r w G1 H1 (Grow.refl ok1.gh) e2⟩
def cut {α : Type} (xs : List α) (lo hi : Option Int) : List α := (xs.drop (HT.sIx xs.length 0 lo)).take (HT.sIx xs.length xs.length hi - HT.sIx xs.length 0 lo)
theorem DenL.cut {K : PySem.W.Frag} {ca : Str → Addr} {H : Hp} {vs : List V} {xs : List α} (lo hi : Option Int) (h : DenL K ca H vs (xs.map enc)) : DenL K ca H (cutV vs lo hi) ((DL.cut xs lo hi).map enc) := by
  have hl := h.length
  rw [List.length_map] at hl
  unfold cutV DL.cut
  rw [hl, List.map_take, List.map_drop]
  exact (h.drop _).take _
/-- a part of a slice -/
def FinP (X : Cx) (J : Jx) (n : M (Option Int)) (σ : L2.St) (G H : Hp) (Q : Option Int → Hp → Prop) : Prop := match n with
  | .ok z => ∀ G' H', Grow G H G' H' → Q z H'
  | .er x => ErK X.K J.ca x G H fun cls d H' => J.W cls d σ H'
  | .no => False
def tP (X : Cx) (J : Jx) (S : List Sl) (n : M (Option Int)) : TO := fun σ H Q => ∃ G own, OkX X J G H own σ S ∧ FinP X J n σ G H Q
def DP (X : Cx) (J : Jx) (S : List Sl) (e : Option Expr) (n : M (Option Int)) : Prop := PO X e (tP X J S n)
theorem po_imp {e : Option Expr} {t t' : TO} (h : PO X e t) (i : ∀ σ H Q, t' σ H Q → t σ H Q) : PO X e t' := ⟨fun pins s σ H Q I q => h.run pins s σ H Q I (i σ H Q q)⟩
theorem FinP.wish {σ : L2.St} {Q : Option Int → Hp → Prop} : Wish (fun n G H => FinP X J n σ G H Q) (fun cls d H' => J.W cls d σ H') X.K J.ca := ⟨fun n _ _ _ _ f g => by
  cases n with
  | ok z => exact fun G2 H2 g2 => f G2 H2 (g.trans g2)
  | er x => exact ErK.grow f g
  | no => exact f, fun _ _ _ f => f, fun _ _ f => f⟩
theorem P_bind {δ : Type} {R : M δ → Hp → Hp → Prop} {σ : L2.St} {G H : Hp} {own : Addr → Option Nat} {n : M (Option Int)} {f : Option Int → M δ} {P : Option Int → Hp → Prop} (w : Wish R (fun cls d H' => J.W cls d σ H') X.K J.ca) (ok : OkX X J G H own σ S) (r : R (mb n f) G H)
    (h : ∀ x G1 H1, Grow G H G1 H1 → OkX X J G1 H1 own σ S → R (f x) G1 H1 → P x H1) : tP X J S n σ H P := by
  refine ⟨G, own, ok, ?_⟩
  cases n with
  | ok x => exact fun G1 H1 g => h x G1 H1 g (ok.grow g) (w.1 _ _ _ _ _ r g)
  | er x => exact w.2.1 _ _ _ r
  | no => exact w.2.2 _ _ r
theorem p_none : DP X J S none (.ok none) := po_imp po_none fun σ H Q ⟨G, own, ok, fin⟩ => fin G H (Grow.refl ok.gh)
theorem p_some (h : DE X J S e eI ma) : DP X J S (some e) (mb ma fun i => .ok (some i)) := po_imp (po_some h) fun σ H Q ⟨G, own, ok, fin⟩ => E_bind FinP.wish ok fin fun i v G1 H1 g ok1 d r => by
  cases d
  exact ⟨i, rfl, r G1 H1 (Grow.refl ok1.gh)⟩
theorem o_cutL {m : M (List α)} {lo hi : Option Expr} {ml mh : M (Option Int)} {p2 : Pos} (ha : DB X J S a (eL enc) m) (hl : DP X J S lo ml) (hh : DP X J S hi mh) : DO X J S (.Subscript a (.Slice lo hi none p2) pos) enc (mb m fun xs => mb ml fun l => mb mh fun h => .ok (cut xs l h)) :=
  pe_imp (pe_slice sl_list ha hl hh) fun σ H Q ⟨G, own, ok, fin⟩ => B_bind FinO.wish ok fin fun xs v G1 H1 g ok1 d r => P_bind FinO.wish ok1 r fun l G2 H2 g2 ok2 r2 => P_bind FinO.wish ok2 r2 fun h G3 H3 g3 ok3 r3 => by
    obtain ⟨p, vs, rfl, h1, h2⟩ := DenB.list ok3.gh (d.grow (g2.trans g3))
    exact ⟨p, vs, rfl, SqL.of h1, fun q hq => r3 q _ G3 _ (Grow.allocO ok3.gh hq) hq upd_same (Same.free ok3.gh hq) (h2.cut l h)⟩
theorem e_cutT {m : M (List α)} {lo hi : Option Expr} {ml mh : M (Option Int)} {p2 : Pos} (ha : DE X J S a (eT enc) m) (hl : DP X J S lo ml) (hh : DP X J S hi mh) : DE X J S (.Subscript a (.Slice lo hi none p2) pos) (eT enc) (mb m fun xs => mb ml fun l => mb mh fun h => .ok (cut xs l h)) :=
  pe_imp (pe_slice sl_tupA ha hl hh) fun σ H Q ⟨G, own, ok, fin⟩ => E_bind Fin.wish ok fin fun xs v G1 H1 g ok1 d r => P_bind Fin.wish ok1 r fun l G2 H2 g2 ok2 r2 => P_bind Fin.wish ok2 r2 fun h G3 H3 g3 ok3 r3 => by
    obtain ⟨p, vs, rfl, h1, h2⟩ := Den.tuple (X := X) ok3.gh (d.mono (g2.trans g3).g)
    obtain ⟨p', vs', e, h1', h2'⟩ := Den.tup' (X := X) (d.mono (g2.trans g3).g)
    have hc := h2.cut l h
    refine ⟨p, vs, rfl, h1, fun hw => ?_, fun _ q hq => ?_⟩
    · refine r3 _ G3 H3 (Grow.refl ok3.gh) ?_
      have hl := h2.length
      rw [List.length_map] at hl
      have e1 : cut xs l h = xs := by
        unfold cut
        rw [← hl, hw.1, hw.2, List.drop_zero, Nat.sub_zero, hl]
        exact List.take_of_length_le (Nat.le_refl _)
      rw [e1]
      exact d.mono (g2.trans g3).g
    · exact r3 _ _ _ (Grow.alloc ok3.gh hq) (.tup (.of upd_same) (hc.mono (same_upd (Same.free ok3.gh hq))))
/-- o.f, o an object with these fields -/
theorem e_fld {f : Str} {m : M α} {g : α → β} {Cn : Str} {fs : α → List (Str × D)} (ha : DE X J S a enc m) (cl : Cls X.K (J.ca Cn)) (na : NoAttr X.K (J.ca Cn) f) (hd : ∀ x, enc x = .obj Cn (fs x) ∧ (fs x).lookup f = some (enb (g x)))
    (hb : attributeBase a f X.env (eval a X.env) = eval a X.env := by rfl) : DE X J S (.Attribute a f pos) enb (mb m fun x => .ok (g x)) :=
  pe_imp (pe_fld ha hb) fun σ H Q ⟨G, own, ok, fin⟩ => E_bind Fin.wish ok fin fun x v G1 H1 g1 ok1 d r => by
    rw [(hd x).1] at d
    cases d with
    | obj h t =>
      obtain ⟨w, e1, e2⟩ := t.lookup (hd x).2
      exact ⟨_, _, _, _, w, rfl, ok1.gh _ _ h, cl, na, e1, r w G1 H1 (Grow.refl ok1.gh) e2⟩

/-! ### arguments, displays -/
def FinA {β : Type} (X : Cx) (J : Jx) (encs : β → List D) (n : M β) (σ : L2.St) (G H : Hp) (Q : List V → Hp → Prop) : Prop := match n with
  | .ok z => ∀ vs G' H', Grow G H G' H' → DenL X.K J.ca G' vs (encs z) → Q vs H'
  | .er x => ErK X.K J.ca x G H fun cls d H' => J.W cls d σ H'
  | .no => False
def tAr {β : Type} (X : Cx) (J : Jx) (S : List Sl) (encs : β → List D) (n : M β) : TA := fun σ H Q => ∃ G own, OkX X J G H own σ S ∧ FinA X J encs n σ G H Q
def DA {β : Type} (X : Cx) (J : Jx) (S : List Sl) (es : List Expr) (encs : β → List D) (n : M β) : Prop := PA X es (tAr X J S encs n)
theorem pa_imp {es : List Expr} {t t' : TA} (h : PA X es t) (i : ∀ σ H Q, t' σ H Q → t σ H Q) : PA X es t' := ⟨fun ps pins s σ H Q I q => h.run ps pins s σ H Q I (i σ H Q q)⟩
theorem FinA.wish {encs : β → List D} {σ : L2.St} {Q : List V → Hp → Prop} : Wish (fun n G H => FinA X J encs n σ G H Q) (fun cls d H' => J.W cls d σ H') X.K J.ca := ⟨fun n _ _ _ _ f g => by
  cases n with
  | ok z => exact fun vs G2 H2 g2 d => f vs G2 H2 (g.trans g2) d
  | er x => exact ErK.grow f g
  | no => exact f, fun _ _ _ f => f, fun _ _ f => f⟩
theorem A_bind {δ : Type} {R : M δ → Hp → Hp → Prop} {σ : L2.St} {G H : Hp} {own : Addr → Option Nat} {encs : β → List D} {n : M β} {f : β → M δ} {P : List V → Hp → Prop} (w : Wish R (fun cls d H' => J.W cls d σ H') X.K J.ca) (ok : OkX X J G H own σ S) (r : R (mb n f) G H)
    (h : ∀ x vs G1 H1, Grow G H G1 H1 → OkX X J G1 H1 own σ S → DenL X.K J.ca G1 vs (encs x) → R (f x) G1 H1 → P vs H1) : tAr X J S encs n σ H P := by
  refine ⟨G, own, ok, ?_⟩
  cases n with
  | ok x => exact fun vs G1 H1 g d => h x vs G1 H1 g (ok.grow g) d (w.1 _ _ _ _ _ r g)
  | er x => exact w.2.1 _ _ _ r
  | no => exact w.2.2 _ _ r
abbrev aN : Unit → List D := fun _ => []
abbrev aC (e : α → D) (es : β → List D) : α × β → List D := fun p => e p.1 :: es p.2
theorem a_nil : DA X J S [] aN (.ok ()) := pa_imp pa_nil fun σ H Q ⟨G, own, ok, fin⟩ => fin [] G H (Grow.refl ok.gh) .nil
theorem a_cons {encs : β → List D} {m : M α} {n : M β} (h : DE X J S a enc m) (h2 : DA X J S es encs n) (hs : starEach (a :: es) X.env = (false, eval a X.env) :: starEach es X.env := by rfl) : DA X J S (a :: es) (aC enc encs) (mb m fun x => mb n fun y => .ok (x, y)) :=
  pa_imp (pa_cons h h2 hs) fun σ H Q ⟨G, own, ok, fin⟩ => E_bind FinA.wish ok fin fun x v G1 H1 g1 ok1 d r => A_bind FinA.wish ok1 r fun y vs G2 H2 g2 ok2 d2 r2 =>
    r2 _ G2 H2 (Grow.refl ok2.gh) (.cons (d.mono g2.g) d2)
/-- a display of like items -/
theorem o_lst {encs : β → List D} {n : M β} {g : β → List α} (h : DA X J S es encs n) (hg : ∀ z, encs z = (g z).map enc) (hl : ∀ z, (g z).length ≤ sizeLine) : DO X J S (.List es pos) enc (mb n fun z => .ok (g z)) :=
  pe_imp (pe_lst h) fun σ H Q ⟨G, own, ok, fin⟩ => A_bind FinO.wish ok fin fun z vs G1 H1 g1 ok1 d r => by
    rw [hg z] at d
    have e := d.length
    rw [List.length_map] at e
    exact ⟨by rw [e]; exact hl z, fun q hq => r q vs G1 _ (Grow.allocO ok1.gh hq) hq upd_same (Same.free ok1.gh hq) d⟩
/-- a tuple of a written length -/
theorem e_tup {encs : β → List D} {n : M β} {kk : Nat} (h : DA X J S es encs n) (hl : ∀ z, (encs z).length ≤ sizeLine) : DE X J S (.Tuple es kk pos) (fun z => .tup (encs z)) n :=
  pe_imp (pe_tup h) fun σ H Q ⟨G, own, ok, fin⟩ => A_bind (f := .ok) (Fin.wish (enc := fun z => D.tup (encs z)) (Q := Q)) ok (by cases n <;> exact fin) fun z vs G1 H1 g1 ok1 d r => by
    exact ⟨by rw [d.length]; exact hl z, fun q hq => r _ _ _ (Grow.alloc ok1.gh hq) (.tup (.of upd_same) (d.mono (same_upd (Same.free ok1.gh hq))))⟩

/-! ### arguments of calls: frozen, or lists lent -/
def FinX {β : Type} (X : Cx) (J : Jx) (encs : β → List Sl) (n : M β) (σ : L2.St) (G H : Hp) (Q : List V → Hp → Prop) : Prop := match n with
  | .ok z => ∀ vs G' H', Grow G H G' H' → ArgL X.K J.ca G' H' vs (encs z) → Q vs H'
  | .er x => ErK X.K J.ca x G H fun cls d H' => J.W cls d σ H'
  | .no => False
def tXr {β : Type} (X : Cx) (J : Jx) (S : List Sl) (encs : β → List Sl) (n : M β) : TA := fun σ H Q => ∃ G own, OkX X J G H own σ S ∧ FinX X J encs n σ G H Q
def DX {β : Type} (X : Cx) (J : Jx) (S : List Sl) (es : List Expr) (encs : β → List Sl) (n : M β) : Prop := PA X es (tXr X J S encs n)
theorem FinX.wish {encs : β → List Sl} {σ : L2.St} {Q : List V → Hp → Prop} : Wish (fun n G H => FinX X J encs n σ G H Q) (fun cls d H' => J.W cls d σ H') X.K J.ca := ⟨fun n _ _ _ _ f g => by
  cases n with
  | ok z => exact fun vs G2 H2 g2 d => f vs G2 H2 (g.trans g2) d
  | er x => exact ErK.grow f g
  | no => exact f, fun _ _ _ f => f, fun _ _ f => f⟩
theorem X_bind {δ : Type} {R : M δ → Hp → Hp → Prop} {σ : L2.St} {G H : Hp} {own : Addr → Option Nat} {encs : β → List Sl} {n : M β} {f : β → M δ} {P : List V → Hp → Prop} (w : Wish R (fun cls d H' => J.W cls d σ H') X.K J.ca) (ok : OkX X J G H own σ S) (r : R (mb n f) G H)
    (h : ∀ x vs G1 H1, Grow G H G1 H1 → OkX X J G1 H1 own σ S → ArgL X.K J.ca G1 H1 vs (encs x) → R (f x) G1 H1 → P vs H1) : tXr X J S encs n σ H P := by
  refine ⟨G, own, ok, ?_⟩
  cases n with
  | ok x => exact fun vs G1 H1 g d => h x vs G1 H1 g (ok.grow g) d (w.1 _ _ _ _ _ r g)
  | er x => exact w.2.1 _ _ _ r
  | no => exact w.2.2 _ _ r
abbrev xN : Unit → List Sl := fun _ => []
abbrev xC (e : α → D) (es : β → List Sl) : α × β → List Sl := fun p => .fr (e p.1) :: es p.2
abbrev xL (e : α → D) (es : β → List Sl) : List α × β → List Sl := fun p => .ln (p.1.map e) :: es p.2
theorem x_nil : DX X J S [] xN (.ok ()) := pa_imp pa_nil fun σ H Q ⟨G, own, ok, fin⟩ => fin [] G H (Grow.refl ok.gh) .nil
theorem x_cons {encs : β → List Sl} {m : M α} {n : M β} (h : DE X J S a enc m) (h2 : DX X J S es encs n) (hs : starEach (a :: es) X.env = (false, eval a X.env) :: starEach es X.env := by rfl) : DX X J S (a :: es) (xC enc encs) (mb m fun x => mb n fun y => .ok (x, y)) :=
  pa_imp (pa_cons h h2 hs) fun σ H Q ⟨G, own, ok, fin⟩ => E_bind FinX.wish ok fin fun x v G1 H1 g1 ok1 d r => X_bind FinX.wish ok1 r fun y vs G2 H2 g2 ok2 d2 r2 =>
    r2 _ G2 H2 (Grow.refl ok2.gh) (.cons (d.mono g2.g) d2)
theorem x_consL {encs : β → List Sl} {m : M (List α)} {n : M β} (h : DB X J S a (eL enc) m) (h2 : DX X J S es encs n) (hs : starEach (a :: es) X.env = (false, eval a X.env) :: starEach es X.env := by rfl) : DX X J S (a :: es) (xL enc encs) (mb m fun x => mb n fun y => .ok (x, y)) :=
  pa_imp (pa_cons h h2 hs) fun σ H Q ⟨G, own, ok, fin⟩ => B_bind FinX.wish ok fin fun x v G1 H1 g1 ok1 d r => X_bind FinX.wish ok1 r fun y vs G2 H2 g2 ok2 d2 r2 => by
    obtain ⟨p, ws, rfl, h1, h3⟩ := DenB.list ok1.gh d
    exact r2 _ G2 H2 (Grow.refl ok2.gh) (.consL (g2.h _ _ h1) (h3.mono g2.g) d2)

/-! ### calls of defs -/
def fnV {β γ ρ : Type} (d : M ρ) (n : M (Out β γ ρ)) : M ρ := match n with
  | .ok (.nx _) => d
  | .ok (.rt r) => .ok r
  | .ok _ => .no
  | .er x => .er x
  | .no => .no
@[simp] theorem fnV_nx {β γ ρ : Type} (d : M ρ) (b : β) : fnV d (.ok (.nx b) : M (Out β γ ρ)) = d := rfl
@[simp] theorem fnV_rt {β γ ρ : Type} (d : M ρ) (b : ρ) : fnV d (.ok (.rt b) : M (Out β γ ρ)) = .ok b := rfl
@[simp] theorem fnV_er {β γ ρ : Type} (d : M ρ) (b : Ex) : fnV d (.er b : M (Out β γ ρ)) = .er b := rfl
def spE (K : PySem.W.Frag) (ca : Str → Addr) {α ρ : Type} (encA : α → List Sl) (enc : ρ → D) (code : α → M ρ) : Sp := spF K ca encA fun a => mb (code a) fun r => .ok (.fr (enc r))
def spO (K : PySem.W.Frag) (ca : Str → Addr) {α ρ : Type} (encA : α → List Sl) (enc : ρ → D) (code : α → M (List ρ)) : Sp := spF K ca encA fun a => mb (code a) fun r => .ok (.ow (r.map enc))
theorem fnO_fnV {R : ρ → RV} {n : M (Out β γ ρ)} {d : M ρ} (hd : d = .no ∨ ∃ r, d = .ok r ∧ R r = .fr .non) : mb (fnV d n) (fun r => .ok (R r)) = fnO R n ∨ mb (fnV d n) (fun r => .ok (R r)) = .no := by
  cases n with
  | ok o =>
    cases o with
    | nx b =>
      rcases hd with rfl | ⟨r, rfl, h⟩
      · exact .inr rfl
      · left; show M.ok (R r) = _; rw [h]; rfl
    | rt r => exact .inl rfl
    | bk c => exact .inl rfl
    | ct c => exact .inl rfl
  | er x => exact .inl rfl
  | no => exact .inl rfl
theorem sp_imp {K : PySem.W.Frag} {ca : Str → Addr} {encA : α → List Sl} {c1 c2 : α → M RV} (h : ∀ a, c2 a = c1 a ∨ c2 a = .no) : ∀ vs H Q E, spF K ca encA c2 vs H Q E → spF K ca encA c1 vs H Q E := fun vs H Q E ⟨a, G, e, d, r⟩ => by
  rcases h a with q | q
  · rw [q] at r; exact ⟨a, G, e, d, r⟩
  · rw [q] at r; exact r.elim
end

section
variable {α β γ δ ρ : Type} {S : List Sl} {enc : α → D} {enb : β → D} {enr : ρ → D} {a b c e : Expr} {es : List Expr} {pos p : Pos} {k j : Nat} {f : Addr} {fd : FuncData} {ps : List Str} {x : Str} {encs : α → List Sl}
/-- a def by its frozen answer -/
theorem fn_E {P : Program} {w : World} {K : PySem.W.Frag} {mg : Str → Option Value} {base : Heap} {ca : Str → Addr} {code : α → M (Out β γ ρ)} {d : M ρ} (h : FnOk P w K mg base (L2N.CX P w) k f fd ps (spF K ca encs fun a => fnO (fun r => .fr (enr r)) (code a)))
    (hd : d = .no ∨ ∃ r, d = .ok r ∧ enr r = .non) : FnOk P w K mg base (L2N.CX P w) k f fd ps (spE K ca encs enr fun a => fnV d (code a)) :=
  h.imp (sp_imp fun a => fnO_fnV (by rcases hd with h | ⟨r, h1, h2⟩; exact .inl h; exact .inr ⟨r, h1, by rw [h2]⟩))
theorem fn_O {P : Program} {w : World} {K : PySem.W.Frag} {mg : Str → Option Value} {base : Heap} {ca : Str → Addr} {code : α → M (Out β γ (List ρ))} (h : FnOk P w K mg base (L2N.CX P w) k f fd ps (spF K ca encs fun a => fnO (fun r => .ow (r.map enr)) (code a))) :
    FnOk P w K mg base (L2N.CX P w) k f fd ps (spO K ca encs enr fun a => fnV .no (code a)) := h.imp (sp_imp fun a => fnO_fnV (.inl rfl))
theorem e_call {code : α → M ρ} {n : M α} (C : CxD X J k) (hj : j ≤ k) (F : FnOk X.prog X.w X.K X.mg X.base (L2N.CX X.prog X.w) j f fd ps (spE X.K J.ca encs enr code)) (hm : X.mg x = some (.ref f)) (hk : PySem.W.keepIn X.K (.ref f) = true) (hb : Binds X.K fd ps [])
    (h : DX X J S (e :: es) encs n) (hg : Gl X x := by rfl) (hdb : (x == ("__debug__" : Str)) = false := by decide) (he : starEach (e :: es) X.env = (false, eval e X.env) :: starEach es X.env := by rfl) (hpl : (backTo pos (starEach es X.env)).any (·.1) = false := by rfl) :
    DE X J S (.Call (.Name x p) (e :: es) [] pos) enr (mb n code) :=
  pe_imp (pe_callSD (F.mono hj) C.room hg hm hk hb .nil (fun σ => L2N.passAt C.tk σ) h hdb he hpl) fun σ H Q ⟨G, own, ok, fin⟩ => X_bind Fin.wish ok fin fun z vs G1 H1 g1 ok1 d r => by
    show spE X.K J.ca encs enr code (vs ++ []) H1 Q _
    rw [List.append_nil]
    refine ⟨z, G1, ok1.gh, d, ?_⟩
    cases hc : code z with
    | ok y => rw [hc] at r; show spR X.K J.ca G1 H1 (mb (code z) _) Q _; rw [hc]; exact fun v G' H' g dv => r v G' H' g dv
    | er q => rw [hc] at r; show spR X.K J.ca G1 H1 (mb (code z) _) Q _; rw [hc]; exact fun cls dd G' H' g ra => r cls dd G' H' g ra
    | no => rw [hc] at r; exact r.elim
theorem o_call {code : α → M (List ρ)} {n : M α} (C : CxD X J k) (hj : j ≤ k) (F : FnOk X.prog X.w X.K X.mg X.base (L2N.CX X.prog X.w) j f fd ps (spO X.K J.ca encs enr code)) (hm : X.mg x = some (.ref f)) (hk : PySem.W.keepIn X.K (.ref f) = true) (hb : Binds X.K fd ps [])
    (h : DX X J S (e :: es) encs n) (hg : Gl X x := by rfl) (hdb : (x == ("__debug__" : Str)) = false := by decide) (he : starEach (e :: es) X.env = (false, eval e X.env) :: starEach es X.env := by rfl) (hpl : (backTo pos (starEach es X.env)).any (·.1) = false := by rfl) :
    DO X J S (.Call (.Name x p) (e :: es) [] pos) enr (mb n code) :=
  pe_imp (pe_callSD (F.mono hj) C.room hg hm hk hb .nil (fun σ => L2N.passAt C.tk σ) h hdb he hpl) fun σ H Q ⟨G, own, ok, fin⟩ => X_bind FinO.wish ok fin fun z vs G1 H1 g1 ok1 d r => by
    show spO X.K J.ca encs enr code (vs ++ []) H1 Q _
    rw [List.append_nil]
    refine ⟨z, G1, ok1.gh, d, ?_⟩
    cases hc : code z with
    | ok y => rw [hc] at r; show spR X.K J.ca G1 H1 (mb (code z) _) Q _; rw [hc]; exact fun p ws G' H' g h1 h2 h3 h4 => r p ws G' H' g h1 h2 h3 h4
    | er q => rw [hc] at r; show spR X.K J.ca G1 H1 (mb (code z) _) Q _; rw [hc]; exact fun cls dd G' H' g ra => r cls dd G' H' g ra
    | no => rw [hc] at r; exact r.elim
end
end DL

namespace DL
open PySem PySem.Spec PyProof.Rows L2
variable {X : Cx} {J : Jx}
section
variable {α β γ δ ρ : Type} {S : List Sl} {enc : α → D} {enb : β → D} {a b c e : Expr} {es : List Expr} {pos p : Pos} {k j : Nat}

/-! ### comprehensions -/
def filL (c : α → M Bool) (f : α → M β) : List α → M (List β)
  | [] => .ok []
  | x :: xs => match c x with
    | .ok true => (match f x with
      | .ok y => mb (filL c f xs) fun ys => .ok (y :: ys)
      | _ => .no)
    | .ok false => filL c f xs
    | _ => .no
def mapL (f : α → M β) : List α → M (List β)
  | [] => .ok []
  | x :: xs => match f x with
    | .ok y => mb (mapL f xs) fun ys => .ok (y :: ys)
    | _ => .no
def lcM (c : α → M Bool) (f : α → M β) (xs : List α) : M (List β) := if xs.length ≤ line then filL c f xs else .no
def mapC (f : α → M β) (xs : List α) : M (List β) := if xs.length ≤ line then mapL f xs else .no
theorem filL_map (f : α → M β) : ∀ xs, filL (fun _ => .ok true) f xs = mapL f xs
  | [] => rfl
  | x :: xs => by
    unfold filL mapL
    rw [filL_map f xs]
theorem mapL_ok {f : α → M β} {g : α → β} : ∀ {xs : List α}, (∀ x ∈ xs, f x = .ok (g x)) → mapL f xs = .ok (xs.map g)
  | [], _ => rfl
  | x :: xs, h => by
    unfold mapL
    rw [h x List.mem_cons_self, mapL_ok fun y hy => h y (List.mem_cons_of_mem _ hy)]
    rfl
theorem mapC_ok {f : α → M β} {g : α → β} {xs : List α} (hl : xs.length ≤ line) (h : ∀ x ∈ xs, f x = .ok (g x)) : mapC f xs = .ok (xs.map g) := by
  unfold mapC
  rw [if_pos hl, mapL_ok h]
theorem filL_ok {c : α → M Bool} {q : α → Bool} {f : α → M β} {g : α → β} : ∀ {xs : List α}, (∀ x ∈ xs, c x = .ok (q x)) → (∀ x ∈ xs, q x = true → f x = .ok (g x)) → filL c f xs = .ok ((xs.filter q).map g)
  | [], _, _ => rfl
  | x :: xs, h, h2 => by
    unfold filL
    rw [h x List.mem_cons_self, filL_ok (fun y hy => h y (List.mem_cons_of_mem _ hy)) fun y hy => h2 y (List.mem_cons_of_mem _ hy)]
    cases hq : q x with
    | true =>
      rw [List.filter_cons_of_pos hq, h2 x List.mem_cons_self hq]
      rfl
    | false =>
      rw [List.filter_cons_of_neg (by rw [hq]; decide)]
theorem lcM_ok {c : α → M Bool} {q : α → Bool} {f : α → M β} {g : α → β} {xs : List α} (hl : xs.length ≤ line) (h : ∀ x ∈ xs, c x = .ok (q x)) (h2 : ∀ x ∈ xs, q x = true → f x = .ok (g x)) : lcM c f xs = .ok ((xs.filter q).map g) := by
  unfold lcM
  rw [if_pos hl, filL_ok h h2]

/-- the block's names forgotten -/
def wipeS (S : List Sl) : List Nat → List Sl
  | [] => S
  | v :: vs => (wipeS S vs).set v .un
theorem wipeS_length (S : List Sl) : ∀ vs, (wipeS S vs).length = S.length
  | [] => rfl
  | v :: vs => by unfold wipeS; rw [List.length_set, wipeS_length S vs]
theorem wipeS_some {S : List Sl} {i : Nat} {s : Sl} : ∀ {vs : List Nat}, (wipeS S vs)[i]? = some s → s = .un ∨ (S[i]? = some s ∧ i ∉ vs)
  | [], h => .inr ⟨h, by simp⟩
  | v :: vs, h => by
    unfold wipeS at h
    by_cases hi : v = i
    · subst hi
      by_cases hv : v < (wipeS S vs).length
      · rw [List.getElem?_set_self hv] at h; cases h; exact .inl rfl
      · rw [List.getElem?_eq_none (by simpa using hv)] at h; cases h
    · rw [List.getElem?_set_ne hi] at h
      rcases wipeS_some h with h | ⟨h1, h2⟩
      · exact .inl h
      · exact .inr ⟨h1, by simp only [List.mem_cons, not_or]; exact ⟨fun e => hi e.symm, h2⟩⟩
theorem Ok.wipe {K : PySem.W.Frag} {ca : Str → Addr} {B : Bs} {G H : Hp} {own : Addr → Option Nat} {σ : L2.St} (k : Ok K ca B G H own σ S) (vs : List Nat) : Ok K ca B G H own (L2.wipe σ vs) (wipeS S vs) := by
  refine ⟨by rw [wipeS_length, wipe_length]; exact k.ln, k.gh, k.g0, k.h0, k.gn, k.ow, fun i s e => ?_⟩
  rcases wipeS_some e with rfl | ⟨h1, h2⟩
  · trivial
  · rw [wipe_out h2]; exact k.sl i s h1
theorem wipe_set {σ : L2.St} {i : Nat} {v : Option V} {vs : List Nat} (h : i ∈ vs) : L2.wipe ((L2.wipe σ vs).set i v) vs = L2.wipe σ vs := by
  have key : ∀ (τ : L2.St) (us : List Nat) (m : Nat), (L2.wipe τ us)[m]? = if m ∈ us then (if m < τ.length then some none else none) else τ[m]? := by
    intro τ us
    induction us with
    | nil => intro m; simp [L2.wipe]
    | cons u us ih =>
      intro m
      unfold L2.wipe
      by_cases hm : u = m
      · subst hm
        by_cases hl : u < τ.length
        · rw [List.getElem?_set_self (by rw [wipe_length]; exact hl)]; simp [hl]
        · rw [List.getElem?_eq_none (by rw [List.length_set, wipe_length]; omega)]; simp [hl]
      · rw [List.getElem?_set_ne hm, ih m]
        have : (m ∈ u :: us) = (m ∈ us) := by simp [Ne.symm hm]
        simp only [this]
  apply List.ext_getElem?
  intro m
  rw [key, key]
  by_cases hm : m ∈ vs
  · simp [hm, wipe_length]
  · have : i ≠ m := fun e => hm (e ▸ h)
    rw [if_neg hm, List.getElem?_set_ne this, key]
theorem Ok.free {K : PySem.W.Frag} {ca : Str → Addr} {B : Bs} {G H : Hp} {own : Addr → Option Nat} {σ : L2.St} {p : Addr} {o : HO} (k : Ok K ca B G H own σ S) (hg : G p = none) (hb : B.H0 p = none) (ho : own p = none) (hx : ∀ (dd : Addr) (ws : List (Str × V)), H dd = some (.xd ws) → dd ≠ p) : Ok K ca B G (upd H p o) own σ S := by
  refine ⟨k.ln, fun b u e => ?_, k.g0, fun b u e => ?_, k.gn, fun b i e => ?_, fun i s e => ?_⟩
  · rw [upd_ne fun z => by rw [z, hg] at e; cases e]; exact k.gh b u e
  · rw [upd_ne fun z => by rw [z, hb] at e; cases e]; exact k.h0 b u e
  · obtain ⟨x, y, z⟩ := k.ow b i e
    refine ⟨x, y, ?_⟩
    rw [upd_ne fun q => by rw [q, ho] at e; cases e]; exact z
  · have q := k.sl i s e
    cases s with
    | un => trivial
    | fr d => exact q
    | ln ds => exact q
    | ow ds =>
      obtain ⟨r, vs, h1, h2, h3, h4⟩ := q
      exact ⟨r, vs, h1, h2, by rw [upd_ne fun z => by rw [z, ho] at h2; cases h2]; exact h3, h4⟩
    | nw r C fs =>
      obtain ⟨h1, h2, dx, vs, h3, h4⟩ := q
      exact ⟨h1, h2, dx, vs, by rw [upd_ne fun z => by rw [z, ho] at h2; cases h2]; exact h3, h4⟩
    | xc a d fs =>
      obtain ⟨h1, h2⟩ := q
      rcases h2 with h2 | ⟨dd, ws, h2, h3, h4⟩
      · exact ⟨h1, .inl h2⟩
      · exact ⟨h1, .inr ⟨dd, ws, h2, by rw [upd_ne (hx dd ws h3)]; exact h3, h4⟩⟩
    | dk kvs =>
      obtain ⟨r, h1, h2, h3⟩ := q
      exact ⟨r, h1, h2, by rw [upd_ne fun z => by rw [z, ho] at h2; cases h2]; exact h3⟩
    | op o d =>
      obtain ⟨t, w, u, h1, h2, h3, h4⟩ := q
      refine ⟨t, w, u, h1, h2, h3, fun ds e => ?_⟩
      obtain ⟨r, vs, e1, e2, e3, e4⟩ := h4 ds e
      exact ⟨r, vs, e1, e2, by rw [upd_ne fun z => by rw [z, ho] at e2; cases e2]; exact e3, e4⟩

abbrev jb (J : Jx) : Jx := ⟨J.ca, fun _ _ _ _ => False, J.B, []⟩
def GSem (X : Cx) (J : Jx) {α : Type} (enc : α → D) (T : α → List Sl → List Sl) (vs : List Nat) (g : TG) : Prop := ∀ (x : α) (v : V) (G H : Hp) (own : Addr → Option Nat) (σ : L2.St) (S : List Sl) (Q : L2.St → Hp → Prop), Ok X.K J.ca J.B G H own (L2.wipe σ vs) S → Den X.K J.ca G v (enc x) →
  (∀ σ' own', Ok X.K J.ca J.B G H own' σ' (T x S) → L2.wipe σ' vs = L2.wipe σ vs → own' = own → Q σ' H) → g v (L2.wipe σ vs) H Q
theorem gs_name {i : Nat} {vs : List Nat} (h : i ∈ vs) : GSem X J enc (fun z S => S.set i (.fr (enc z))) vs (gName i) := fun x v G H own σ S Q ok d q => q _ own (ok.setF d) (wipe_set h) rfl
theorem takesN : L2N.Takes X (fun _ _ _ _ => False) := fun _ _ ⟨_, _, _, _, _, _, _, _, _, _, _, _, _, _, _, _, w⟩ => w.elim
theorem CxD.blk (C : CxD X J k) (s : Shared) (H : Hp) (scope : Scope) (cenv : Env) (fp : List Addr) : CxD (X.blk s H scope cenv fp) (jb J) k := ⟨C.calm, takesN, PassesOwn.never, C.room.mono (Nat.le_refl _), C.nd⟩
theorem lc_imp {ovs : List Nat} {T : α → List Sl → List Sl} {g : TG} {m : M (List α)} {mt : α → M Bool} {f : α → M β} {σ : L2.St} {H : Hp} {Q : VK} (hgs : GSem X J enc T ovs g) (hO : tO X J S enb (mb m fun xs => lcM mt f xs) σ H Q) :
    tLc (tI X J S enc m) g (fun σ H Q => ∃ x, tT X (jb J) (T x (wipeS S ovs)) (mt x) σ H Q) (fun σ H Q => ∃ x, tE X (jb J) (T x (wipeS S ovs)) enb (f x) σ H Q) ovs σ H Q := by
  obtain ⟨G, own, okk, fin⟩ := hO
  refine ⟨G, own, okk, ?_⟩
  cases m with
  | er x => exact fin
  | no => exact fin
  | ok zs =>
    intro I G1 H1 gr io D hD
    have fin : FinO X J enb (lcM mt f zs) σ G H Q := fin
    unfold lcM at fin
    by_cases hz : zs.length ≤ line
    · rw [if_pos hz] at fin
      have ok1 := okk.grow gr
      have hDG : G1 D = none := Same.free ok1.gh hD
      have hDB : J.B.H0 D = none := Same.free ok1.h0 hD
      have hDo : own D = none := by
        cases q : own D with
        | none => rfl
        | some i => exact absurd hD (ok1.ow D i q).2.2
      have hDH : H D = none := Same.free gr.h hD
      -- what stays: the items done so far
      refine ⟨fun i m H2 => m = zs.length - i ∧ i ≤ zs.length ∧ ∃ (G2 : Hp) (acc : List V) (done : List β), OkX X J G2 H2 own σ S ∧ Grow G1 H1 G2 H2 ∧ H2 D = some (.lst acc) ∧ G2 D = none ∧ acc.length ≤ i ∧ DenL X.K J.ca G2 acc (done.map enb) ∧
        FinO X J enb (mb (filL mt f (zs.drop i)) fun ys => .ok (done ++ ys)) σ G H Q, ⟨_, rfl, Nat.zero_le _, G1, [], [], ok1.free hDG hDB hDo (fun dd ws e z => by rw [z, hD] at e; cases e), Grow.allocO ok1.gh hD, upd_same, hDG, Nat.le_refl _, .nil, ?_⟩, ?_⟩
      · rw [List.drop_zero]
        cases q : filL mt f zs with
        | ok ys => rw [q] at fin; exact fin
        | er x => rw [q] at fin; exact fin
        | no => rw [q] at fin; exact fin
      · rintro i m H2 ⟨rfl, hile, G2, acc, done, ok2, g12, hacc, hG2, hal, den, fin2⟩
        by_cases hlt : i < zs.length
        · have hd : (zs.map enc)[i]? = some (enc zs[i]) := by rw [List.getElem?_map, List.getElem?_eq_getElem hlt]; rfl
          obtain ⟨go, yld⟩ := (io i H2 G2 ok2.h0 g12.g ok2.gh).1 _ hd
          rw [List.drop_eq_getElem_cons hlt] at fin2
          refine .inr ⟨go, fun H' => zs.length - (i + 1) = zs.length - (i + 1) ∧ i + 1 ≤ zs.length ∧ ∃ (G2 : Hp) (acc : List V) (done : List β), OkX X J G2 H' own σ S ∧ Grow G1 H1 G2 H' ∧ H' D = some (.lst acc) ∧ G2 D = none ∧ acc.length ≤ i + 1 ∧ DenL X.K J.ca G2 acc (done.map enb) ∧
            FinO X J enb (mb (filL mt f (zs.drop (i + 1))) fun ys => .ok (done ++ ys)) σ G H Q, fun H' n => ⟨_, by omega, n⟩, fun x H3 y => ?_⟩
          obtain ⟨G3, gr3, denx⟩ := yld x H3 y
          have ok3 := ok2.grow gr3
          have hG3 : G3 D = none := by
            rw [gr3.n D (by rw [hacc]; exact fun z => by cases z)]; exact hG2
          refine hgs zs[i] x G3 H3 own σ (wipeS S ovs) _ (ok3.wipe _) denx fun σ4 own4 ok4 hw eo => ⟨hw, ?_⟩
          subst eo
          unfold filL at fin2
          cases hmt : mt zs[i] with
          | er q => rw [hmt] at fin2; exact fin2.elim
          | no => rw [hmt] at fin2; exact fin2.elim
          | ok bt =>
            rw [hmt] at fin2
            refine ⟨zs[i], G3, own4, ok4, ?_⟩
            rw [hmt]
            intro G5 H5 g35
            have g25 := gr3.trans g35
            cases bt with
            | false =>
              simp only [Bool.false_eq_true, if_false]
              exact ⟨trivial, hlt, G5, acc, done, ok2.grow g25, g12.trans g25, g25.h _ _ hacc, by rw [g25.n D (by rw [hacc]; exact fun z => by cases z)]; exact hG2, Nat.le_succ_of_le hal, den.mono g25.g, fin2⟩
            | true =>
              simp only [if_true]
              cases hf : f zs[i] with
              | er q => rw [hf] at fin2; exact fin2.elim
              | no => rw [hf] at fin2; exact fin2.elim
              | ok y =>
                rw [hf] at fin2
                refine ⟨zs[i], G5, own4, ok4.grow g35, ?_⟩
                rw [hf]
                intro v G6 H6 g56 dv
                have g26 := g25.trans g56
                have hG6 : G6 D = none := by rw [g26.n D (by rw [hacc]; exact fun z => by cases z)]; exact hG2
                have ok6 := ok2.grow g26
                have gr6 : Grow G1 H1 G6 H6 := g12.trans g26
                have hne : ∀ b, H1 b ≠ none → b ≠ D := fun b hb z => hb (z ▸ hD)
                refine ⟨acc, g26.h _ _ hacc, Nat.lt_of_le_of_lt hal (Nat.lt_of_lt_of_le hlt (Nat.le_trans hz line_le)), trivial, hlt, G6, acc ++ [v], done ++ [y], ok6.free hG6 hDB hDo (fun dd ws e z => by rw [z, g26.h _ _ hacc] at e; cases e), ⟨gr6.g, fun b o eb => ?_, fun b o eb => ?_, gr6.n⟩, upd_same, hG6, by rw [List.length_append]; exact Nat.succ_le_succ hal, ?_, ?_⟩
                · rw [upd_ne (hne b (by rw [eb]; exact fun z => by cases z))]; exact gr6.h b o eb
                · rw [upd_ne fun z => by rw [z, hG6] at eb; cases eb]; exact gr6.gh b o eb
                · rw [List.map_append]; exact (den.mono g26.g).append (.cons dv .nil)
                · rw [mb_assoc] at fin2
                  simpa only [mb_ok, List.append_assoc, List.singleton_append] using fin2
        · have hi' : i = zs.length := by omega
          subst hi'
          rw [List.drop_length] at fin2
          refine .inl ⟨(io _ H2 G2 ok2.h0 g12.g ok2.gh).2 (by rw [List.length_map]; exact Nat.le_refl _), ?_⟩
          have fin3 : FinO X J enb (.ok (done ++ [])) σ G H Q := fin2
          rw [List.append_nil] at fin3
          exact fin3 D acc G2 H2 (gr.trans g12) hDH hacc hG2 den
    · rw [if_neg hz] at fin; exact fin.elim
theorem o_lc {tg iter elt : Expr} {ifs : List Expr} {scope : Scope} {ow : List (Str × Nat)} {T : α → List Sl → List Sl} {g : TG} {m : M (List α)} {mt : α → M Bool} {f : α → M β} (C : CxD X J k) (hi : DI X J S tg iter enc m) (ok : BlkOk X.N X.env.scope scope ow)
    (hg : ∀ (s : Shared) (H : Hp) (C : Addr) (cl : List (Str × Addr)) (fp : List Addr), PG (X.blk s H scope (compEnvC scope cl C X.env) fp) tg g) (hgs : GSem X J enc T (ow.map (·.2)) g)
    (ht : ∀ (s : Shared) (H : Hp) (C : Addr) (cl : List (Str × Addr)) (fp : List Addr) x, PTs (X.blk s H scope (compEnvC scope cl C X.env) fp) ifs (tT X (jb J) (T x (wipeS S (ow.map (·.2)))) (mt x)))
    (he : ∀ (s : Shared) (H : Hp) (Ca : Addr) (cl : List (Str × Addr)) (fp : List Addr), CxD (X.blk s H scope (compEnvC scope cl Ca X.env) fp) (jb J) k → ∀ x, DE (X.blk s H scope (compEnvC scope cl Ca X.env) fp) (jb J) (T x (wipeS S (ow.map (·.2)))) elt enb (f x)) (hs : ∀ x, foldedSetIterable iter X.env x = pure x := by intro _; rfl) :
    DO X J S (.ListComp elt [⟨tg, iter, ifs, 0⟩] scope pos) enb (mb m fun xs => lcM mt f xs) := by
  have ht' : ∀ (s : Shared) (H : Hp) (C : Addr) (cl : List (Str × Addr)) (fp : List Addr), PTs (X.blk s H scope (compEnvC scope cl C X.env) fp) ifs (fun σ H Q => ∃ x, tT X (jb J) (T x (wipeS S (ow.map (·.2)))) (mt x) σ H Q) :=
    fun s H Ca cl fp => ⟨fun pins s' σ H' Q I ⟨x, q⟩ => (ht s H Ca cl fp x).run pins s' σ H' Q I q⟩
  have he' : ∀ (s : Shared) (H : Hp) (C : Addr) (cl : List (Str × Addr)) (fp : List Addr), PE (X.blk s H scope (compEnvC scope cl C X.env) fp) elt (fun σ H Q => ∃ x, tE X (jb J) (T x (wipeS S (ow.map (·.2)))) enb (f x) σ H Q) :=
    fun s H Ca cl fp => ⟨fun pins s' σ H' Q I ⟨x, q⟩ => (he s H Ca cl fp (C.blk s H scope _ fp) x).run pins s' σ H' Q I q⟩
  exact pe_imp (pe_lc C.calm C.nd hi ok hg ht' he' hs) fun σ H Q q => lc_imp hgs q
/-- x = [..] on one line, x a local -/
theorem ss_asgLc {tg iter elt : Expr} {ifs : List Expr} {scope : Scope} {ow : List (Str × Nat)} {T : α → List Sl → List Sl} {g : TG} {m : M (List α)} {mt : α → M Bool} {f : α → M β} {rest : List Stmt} {N : γ → List Sl} {L : δ → List Sl} {R : ρ → RV} {h : List β → M (Out γ δ ρ)} {i : Nat} {y : Str} {py spos : Pos} (C : CxD X J k) (hi : DI X J S tg iter enc m) (ok : BlkOk X.N X.env.scope scope ow)
    (hg : ∀ (s : Shared) (H : Hp) (C : Addr) (cl : List (Str × Addr)) (fp : List Addr), PG (X.blk s H scope (compEnvC scope cl C X.env) fp) tg g) (hgs : GSem X J enc T (ow.map (·.2)) g)
    (ht : ∀ (s : Shared) (H : Hp) (C : Addr) (cl : List (Str × Addr)) (fp : List Addr) x, PTs (X.blk s H scope (compEnvC scope cl C X.env) fp) ifs (tT X (jb J) (T x (wipeS S (ow.map (·.2)))) (mt x)))
    (he : ∀ (s : Shared) (H : Hp) (Ca : Addr) (cl : List (Str × Addr)) (fp : List Addr), CxD (X.blk s H scope (compEnvC scope cl Ca X.env) fp) (jb J) k → ∀ x, DE (X.blk s H scope (compEnvC scope cl Ca X.env) fp) (jb J) (T x (wipeS S (ow.map (·.2)))) elt enb (f x))
    (hr : ∀ xs, DSs X J (S.set i (.ow (xs.map enb))) rest N L R (h xs)) (hw : Wk S J.Sx) (hy : X.N[i]? = some y := by rfl) (hyl : X.env.scope.names.lookup y = some .local := by rfl) (hk : X.env.scope.kind = .function := by rfl) (hln : (py.line == pos.line) = true := by rfl)
    (ha : (scope.names.any fun (n, k) => n == y && (k == .local || k == .cell)) = false := by rfl) (hs : ∀ x, foldedSetIterable iter X.env x = pure x := by intro _; rfl) :
    DSs X J S (.Assign [.Name y py] (.ListComp elt [⟨tg, iter, ifs, 0⟩] scope pos) spos :: rest) N L R (mb (mb m fun xs => lcM mt f xs) h) := by
  have ht' : ∀ (s : Shared) (H : Hp) (C : Addr) (cl : List (Str × Addr)) (fp : List Addr), PTs (X.blk s H scope (compEnvC scope cl C X.env) fp) ifs (fun σ H Q => ∃ x, tT X (jb J) (T x (wipeS S (ow.map (·.2)))) (mt x) σ H Q) :=
    fun s H Ca cl fp => ⟨fun pins s' σ H' Q I ⟨x, q⟩ => (ht s H Ca cl fp x).run pins s' σ H' Q I q⟩
  have he' : ∀ (s : Shared) (H : Hp) (C : Addr) (cl : List (Str × Addr)) (fp : List Addr), PE (X.blk s H scope (compEnvC scope cl C X.env) fp) elt (fun σ H Q => ∃ x, tE X (jb J) (T x (wipeS S (ow.map (·.2)))) enb (f x) σ H Q) :=
    fun s H Ca cl fp => ⟨fun pins s' σ H' Q I ⟨x, q⟩ => (he s H Ca cl fp (C.blk s H scope _ fp) x).run pins s' σ H' Q I q⟩
  exact pss_imp (pss_cons (ps_setLc C.calm C.nd hy hyl (sw_true hk hyl hln ha) hi ok hg ht' he' hs) (pss_ex hr)) fun Dn σ H ⟨G, own, okk, fin⟩ => by
    unfold tSeq tAsg
    exact lc_imp (J := J) (enb := enb) hgs (O_bind (FinS.wish hw) okk ⟨fin, okk⟩ fun x p vs G1 H1 g ok1 hp ho hq hg d r => ⟨x, G1, _, ok1.setO hq (Same.free okk.h0 hp) hg ho d, r.1⟩)
theorem ts_nil : PTs X [] (tT X J S (.ok true)) := ⟨fun pins s σ H Q I ⟨G, own, ok, fin⟩ => pts_nil.run pins s σ H Q I (fin G H (Grow.refl ok.gh))⟩
/-- without a test -/
theorem o_lc0 {tg iter elt : Expr} {scope : Scope} {ow : List (Str × Nat)} {T : α → List Sl → List Sl} {g : TG} {m : M (List α)} {f : α → M β} (C : CxD X J k) (hi : DI X J S tg iter enc m) (ok : BlkOk X.N X.env.scope scope ow)
    (hg : ∀ (s : Shared) (H : Hp) (C : Addr) (cl : List (Str × Addr)) (fp : List Addr), PG (X.blk s H scope (compEnvC scope cl C X.env) fp) tg g) (hgs : GSem X J enc T (ow.map (·.2)) g)
    (he : ∀ (s : Shared) (H : Hp) (Ca : Addr) (cl : List (Str × Addr)) (fp : List Addr), CxD (X.blk s H scope (compEnvC scope cl Ca X.env) fp) (jb J) k → ∀ x, DE (X.blk s H scope (compEnvC scope cl Ca X.env) fp) (jb J) (T x (wipeS S (ow.map (·.2)))) elt enb (f x)) (hs : ∀ x, foldedSetIterable iter X.env x = pure x := by intro _; rfl) :
    DO X J S (.ListComp elt [⟨tg, iter, [], 0⟩] scope pos) enb (mb m fun xs => mapC f xs) := by
  have e : (fun xs => mapC f xs) = fun xs => lcM (fun _ => .ok true) f xs := by
    funext xs
    unfold mapC lcM
    rw [filL_map]
  rw [e]
  exact o_lc (mt := fun _ => .ok true) C hi ok hg hgs (fun s H Ca cl fp x => ⟨fun pins s' σ H' Q I q => ts_nil.run pins s' σ H' Q I q⟩) he hs
/-- with one test -/
theorem o_lc1 {tg iter elt cond : Expr} {scope : Scope} {ow : List (Str × Nat)} {T : α → List Sl → List Sl} {g : TG} {m : M (List α)} {mt : α → M Bool} {f : α → M β} (C : CxD X J k) (hi : DI X J S tg iter enc m) (ok : BlkOk X.N X.env.scope scope ow)
    (hg : ∀ (s : Shared) (H : Hp) (C : Addr) (cl : List (Str × Addr)) (fp : List Addr), PG (X.blk s H scope (compEnvC scope cl C X.env) fp) tg g) (hgs : GSem X J enc T (ow.map (·.2)) g)
    (ht : ∀ (s : Shared) (H : Hp) (Ca : Addr) (cl : List (Str × Addr)) (fp : List Addr), CxD (X.blk s H scope (compEnvC scope cl Ca X.env) fp) (jb J) k → ∀ x, DT (X.blk s H scope (compEnvC scope cl Ca X.env) fp) (jb J) (T x (wipeS S (ow.map (·.2)))) cond (mt x))
    (he : ∀ (s : Shared) (H : Hp) (Ca : Addr) (cl : List (Str × Addr)) (fp : List Addr), CxD (X.blk s H scope (compEnvC scope cl Ca X.env) fp) (jb J) k → ∀ x, DE (X.blk s H scope (compEnvC scope cl Ca X.env) fp) (jb J) (T x (wipeS S (ow.map (·.2)))) elt enb (f x)) (hs : ∀ x, foldedSetIterable iter X.env x = pure x := by intro _; rfl) :
    DO X J S (.ListComp elt [⟨tg, iter, [cond], 0⟩] scope pos) enb (mb m fun xs => lcM mt f xs) :=
  o_lc C hi ok hg hgs (fun s H Ca cl fp x => pts_one (ht s H Ca cl fp (C.blk s H scope _ fp) x)) he hs
/-- the same without a test, with one -/
theorem ss_asgLc0 {tg iter elt : Expr} {scope : Scope} {ow : List (Str × Nat)} {T : α → List Sl → List Sl} {g : TG} {m : M (List α)} {f : α → M β} {rest : List Stmt} {N : γ → List Sl} {L : δ → List Sl} {R : ρ → RV} {h : List β → M (Out γ δ ρ)} {i : Nat} {y : Str} {py spos : Pos} (C : CxD X J k) (hi : DI X J S tg iter enc m) (ok : BlkOk X.N X.env.scope scope ow)
    (hg : ∀ (s : Shared) (H : Hp) (C : Addr) (cl : List (Str × Addr)) (fp : List Addr), PG (X.blk s H scope (compEnvC scope cl C X.env) fp) tg g) (hgs : GSem X J enc T (ow.map (·.2)) g)
    (he : ∀ (s : Shared) (H : Hp) (Ca : Addr) (cl : List (Str × Addr)) (fp : List Addr), CxD (X.blk s H scope (compEnvC scope cl Ca X.env) fp) (jb J) k → ∀ x, DE (X.blk s H scope (compEnvC scope cl Ca X.env) fp) (jb J) (T x (wipeS S (ow.map (·.2)))) elt enb (f x))
    (hr : ∀ xs, DSs X J (S.set i (.ow (xs.map enb))) rest N L R (h xs)) (hw : Wk S J.Sx) (hy : X.N[i]? = some y := by rfl) (hyl : X.env.scope.names.lookup y = some .local := by rfl) (hk : X.env.scope.kind = .function := by rfl) (hln : (py.line == pos.line) = true := by rfl)
    (ha : (scope.names.any fun (n, k) => n == y && (k == .local || k == .cell)) = false := by rfl) (hs : ∀ x, foldedSetIterable iter X.env x = pure x := by intro _; rfl) :
    DSs X J S (.Assign [.Name y py] (.ListComp elt [⟨tg, iter, [], 0⟩] scope pos) spos :: rest) N L R (mb (mb m fun xs => mapC f xs) h) := by
  have e : (fun xs => mapC f xs) = fun xs => lcM (fun _ => .ok true) f xs := by
    funext xs
    unfold mapC lcM
    rw [filL_map]
  rw [e]
  exact ss_asgLc (mt := fun _ => .ok true) C hi ok hg hgs (fun s H Ca cl fp x => ⟨fun pins s' σ H' Q I q => ts_nil.run pins s' σ H' Q I q⟩) he hr hw hy hyl hk hln ha hs
theorem ss_asgLc1 {tg iter elt cond : Expr} {scope : Scope} {ow : List (Str × Nat)} {T : α → List Sl → List Sl} {g : TG} {m : M (List α)} {mt : α → M Bool} {f : α → M β} {rest : List Stmt} {N : γ → List Sl} {L : δ → List Sl} {R : ρ → RV} {h : List β → M (Out γ δ ρ)} {i : Nat} {y : Str} {py spos : Pos} (C : CxD X J k) (hi : DI X J S tg iter enc m) (ok : BlkOk X.N X.env.scope scope ow)
    (hg : ∀ (s : Shared) (H : Hp) (C : Addr) (cl : List (Str × Addr)) (fp : List Addr), PG (X.blk s H scope (compEnvC scope cl C X.env) fp) tg g) (hgs : GSem X J enc T (ow.map (·.2)) g)
    (ht : ∀ (s : Shared) (H : Hp) (Ca : Addr) (cl : List (Str × Addr)) (fp : List Addr), CxD (X.blk s H scope (compEnvC scope cl Ca X.env) fp) (jb J) k → ∀ x, DT (X.blk s H scope (compEnvC scope cl Ca X.env) fp) (jb J) (T x (wipeS S (ow.map (·.2)))) cond (mt x))
    (he : ∀ (s : Shared) (H : Hp) (Ca : Addr) (cl : List (Str × Addr)) (fp : List Addr), CxD (X.blk s H scope (compEnvC scope cl Ca X.env) fp) (jb J) k → ∀ x, DE (X.blk s H scope (compEnvC scope cl Ca X.env) fp) (jb J) (T x (wipeS S (ow.map (·.2)))) elt enb (f x))
    (hr : ∀ xs, DSs X J (S.set i (.ow (xs.map enb))) rest N L R (h xs)) (hw : Wk S J.Sx) (hy : X.N[i]? = some y := by rfl) (hyl : X.env.scope.names.lookup y = some .local := by rfl) (hk : X.env.scope.kind = .function := by rfl) (hln : (py.line == pos.line) = true := by rfl)
    (ha : (scope.names.any fun (n, k) => n == y && (k == .local || k == .cell)) = false := by rfl) (hs : ∀ x, foldedSetIterable iter X.env x = pure x := by intro _; rfl) :
    DSs X J S (.Assign [.Name y py] (.ListComp elt [⟨tg, iter, [cond], 0⟩] scope pos) spos :: rest) N L R (mb (mb m fun xs => lcM mt f xs) h) :=
  ss_asgLc C hi ok hg hgs (fun s H Ca cl fp x => pts_one (ht s H Ca cl fp (C.blk s H scope _ fp) x)) he hr hw hy hyl hk hln ha hs
end
end DL

namespace DL
open PySem PySem.Spec PyProof.Rows L2
variable {X : Cx} {J : Jx}
section
variable {α β γ δ ρ : Type} {S : List Sl} {enc : α → D} {enb : β → D} {a b c e : Expr} {es : List Expr} {pos p : Pos} {k j : Nat}

/-! ### built-in calls -/
theorem e_lenL {m : M (List α)} (hm : X.mg "len" = none) (h : PA X [a] (tCons (tEb X J S (eL enc) m) tNil)) (hg : Gl X "len" := by rfl)
    (he : starEach (a :: []) X.env = (false, eval a X.env) :: starEach [] X.env := by rfl) (hpl : (backTo pos (starEach [] X.env)).any (·.1) = false := by rfl) : DE X J S (.Call (.Name "len" p) [a] [] pos) eI (mb m fun xs => .ok (xs.length : Int)) :=
  pe_imp (pe_callB call_len_seq hg hm PySem.boot_len h (by decide) (by decide) he hpl) fun σ H Q ⟨G, own, ok, fin⟩ => B_bind Fin.wish ok fin fun xs v G1 H1 g ok1 d r => by
    obtain ⟨q, vs, rfl, h1, h2⟩ := DenB.list ok1.gh d
    refine ⟨q, vs, rfl, .inl (SqL.of h1), ?_⟩
    have e := h2.length
    rw [List.length_map] at e
    rw [e]
    exact r _ G1 H1 (Grow.refl ok1.gh) (.int _)
theorem e_lenT {m : M (List α)} (hm : X.mg "len" = none) (h : PA X [a] (tCons (tE X J S (eT enc) m) tNil)) (hg : Gl X "len" := by rfl)
    (he : starEach (a :: []) X.env = (false, eval a X.env) :: starEach [] X.env := by rfl) (hpl : (backTo pos (starEach [] X.env)).any (·.1) = false := by rfl) : DE X J S (.Call (.Name "len" p) [a] [] pos) eI (mb m fun xs => .ok (xs.length : Int)) :=
  pe_imp (pe_callB call_len_seq hg hm PySem.boot_len h (by decide) (by decide) he hpl) fun σ H Q ⟨G, own, ok, fin⟩ => E_bind Fin.wish ok fin fun xs v G1 H1 g ok1 d r => by
    obtain ⟨q, vs, rfl, h1, h2⟩ := Den.tuple (X := X) ok1.gh d
    refine ⟨q, vs, rfl, .inr h1, ?_⟩
    have e := h2.length
    rw [List.length_map] at e
    rw [e]
    exact r _ G1 H1 (Grow.refl ok1.gh) (.int _)
/-- the law's script -/
abbrev eScr : List Int → D := fun ns => .scr (ns.map D.int)
theorem e_lenS {m : M (List Int)} (hm : X.mg "len" = none) (h : PA X [a] (tCons (tE X J S eScr m) tNil)) (hg : Gl X "len" := by rfl)
    (he : starEach (a :: []) X.env = (false, eval a X.env) :: starEach [] X.env := by rfl) (hpl : (backTo pos (starEach [] X.env)).any (·.1) = false := by rfl) : DE X J S (.Call (.Name "len" p) [a] [] pos) eI (mb m fun xs => .ok (xs.length : Int)) :=
  pe_imp (pe_callB call_len_seq hg hm PySem.boot_len h (by decide) (by decide) he hpl) fun σ H Q ⟨G, own, ok, fin⟩ => E_bind Fin.wish ok fin fun xs v G1 H1 g ok1 d r => by
    cases d with
    | scr h1 h2 =>
      refine ⟨_, _, rfl, .inl (ok1.gh.seq h1), ?_⟩
      have e := h2.length
      rw [List.length_map] at e
      rw [e]
      exact r _ G1 H1 (Grow.refl ok1.gh) (.int _)
theorem e_ixS {m : M (List Int)} {mi : M Int} (ha : DE X J S a eScr m) (hb : DE X J S b eI mi) (hs : PlainIx b := by intro _ _; rfl) : DE X J S (.Subscript a b pos) eI (mb m fun xs => mb mi fun i => ixM xs i) :=
  pe_imp (pe_ix ix_list ha hb hs) fun σ H Q ⟨G, own, ok, fin⟩ => E_bind Fin.wish ok fin fun xs v G1 H1 g ok1 d r => E_bind Fin.wish ok1 r fun i u G2 H2 g2 ok2 d2 r2 => by
    cases d2
    cases d with
    | scr h1 h2 =>
      unfold ixM at r2
      cases hx : L2.atI xs i with
      | none => rw [hx] at r2; exact r2.elim
      | some x =>
        rw [hx] at r2
        obtain ⟨w, e1, e2⟩ := (h2.mono g2.g).atI hx
        exact ⟨_, _, i, w, rfl, rfl, (g2.gh.seq (g2.g.seq h1)), e1, r2 w G2 H2 (Grow.refl ok2.gh) e2⟩
theorem e_intI {m : M Int} (hm : X.mg "int" = none) (h : PA X [a] (tCons (tE X J S eI m) tNil)) (hg : Gl X "int" := by rfl)
    (he : starEach (a :: []) X.env = (false, eval a X.env) :: starEach [] X.env := by rfl) (hpl : (backTo pos (starEach [] X.env)).any (·.1) = false := by rfl) : DE X J S (.Call (.Name "int" p) [a] [] pos) eI m :=
  pe_imp (pe_callTy call_int1 hg hm boot_int h (by decide) (by decide) he hpl) fun σ H Q ⟨G, own, ok, fin⟩ => E_bind (f := .ok) (Fin.wish (enc := eI) (Q := Q)) ok (by cases m <;> exact fin) fun i v G1 H1 g ok1 d r => by
    cases d
    exact .inl ⟨i, rfl, r _ G1 H1 (Grow.refl ok1.gh) (.int _)⟩
/-- list(xs), of a list | a tuple -/
theorem o_list {m : M (List α)} (hm : X.mg "list" = none) (h : PA X [a] (tCons (tEb X J S (eL enc) m) tNil)) (hg : Gl X "list" := by rfl)
    (he : starEach (a :: []) X.env = (false, eval a X.env) :: starEach [] X.env := by rfl) (hpl : (backTo pos (starEach [] X.env)).any (·.1) = false := by rfl) : DO X J S (.Call (.Name "list" p) [a] [] pos) enc m :=
  pe_imp (pe_callTy call_list_of hg hm boot_list h (by decide) (by decide) he hpl) fun σ H Q ⟨G, own, ok, fin⟩ => B_bind (f := .ok) (FinO.wish (enc := enc) (Q := Q)) ok (by cases m <;> exact fin) fun xs v G1 H1 g ok1 d r => by
    obtain ⟨q, vs, rfl, h1, h2⟩ := DenB.list ok1.gh d
    exact ⟨q, vs, rfl, .inl (SqL.of h1), fun l hl => r l vs G1 _ (Grow.allocO ok1.gh hl) hl upd_same (Same.free ok1.gh hl) h2⟩
theorem o_listT {m : M (List α)} (hm : X.mg "list" = none) (h : PA X [a] (tCons (tE X J S (eT enc) m) tNil)) (hg : Gl X "list" := by rfl)
    (he : starEach (a :: []) X.env = (false, eval a X.env) :: starEach [] X.env := by rfl) (hpl : (backTo pos (starEach [] X.env)).any (·.1) = false := by rfl) : DO X J S (.Call (.Name "list" p) [a] [] pos) enc m :=
  pe_imp (pe_callTy call_list_of hg hm boot_list h (by decide) (by decide) he hpl) fun σ H Q ⟨G, own, ok, fin⟩ => E_bind (f := .ok) (FinO.wish (enc := enc) (Q := Q)) ok (by cases m <;> exact fin) fun xs v G1 H1 g ok1 d r => by
    obtain ⟨q, vs, rfl, h1, h2⟩ := Den.tuple (X := X) ok1.gh d
    exact ⟨q, vs, rfl, .inr h1, fun l hl => r l vs G1 _ (Grow.allocO ok1.gh hl) hl upd_same (Same.free ok1.gh hl) h2⟩
/-- tuple(xs), of a list | a tuple -/
theorem e_tuple {m : M (List α)} (hm : X.mg "tuple" = none) (h : PA X [a] (tCons (tEb X J S (eL enc) m) tNil)) (hg : Gl X "tuple" := by rfl)
    (he : starEach (a :: []) X.env = (false, eval a X.env) :: starEach [] X.env := by rfl) (hpl : (backTo pos (starEach [] X.env)).any (·.1) = false := by rfl) : DE X J S (.Call (.Name "tuple" p) [a] [] pos) (eT enc) m :=
  pe_imp (pe_callTy call_tuple_of hg hm boot_tuple h (by decide) (by decide) he hpl) fun σ H Q ⟨G, own, ok, fin⟩ => B_bind (f := .ok) (Fin.wish (enc := eT enc) (Q := Q)) ok (by cases m <;> exact fin) fun xs v G1 H1 g ok1 d r => by
    obtain ⟨q, vs, rfl, h1, h2⟩ := DenB.list ok1.gh d
    exact ⟨q, vs, rfl, .inl ⟨SqL.of h1, fun l hl => r _ _ _ (Grow.alloc ok1.gh hl) (.tup (.of upd_same) (h2.mono (same_upd (Same.free ok1.gh hl))))⟩⟩
theorem e_tupleT {m : M (List α)} (hm : X.mg "tuple" = none) (h : PA X [a] (tCons (tE X J S (eT enc) m) tNil)) (hg : Gl X "tuple" := by rfl)
    (he : starEach (a :: []) X.env = (false, eval a X.env) :: starEach [] X.env := by rfl) (hpl : (backTo pos (starEach [] X.env)).any (·.1) = false := by rfl) : DE X J S (.Call (.Name "tuple" p) [a] [] pos) (eT enc) m :=
  pe_imp (pe_callTy call_tuple_of hg hm boot_tuple h (by decide) (by decide) he hpl) fun σ H Q ⟨G, own, ok, fin⟩ => E_bind (f := .ok) (Fin.wish (enc := eT enc) (Q := Q)) ok (by cases m <;> exact fin) fun xs v G1 H1 g ok1 d r => by
    have d' := d
    obtain ⟨q, vs, rfl, h1, h2⟩ := Den.tuple (X := X) ok1.gh d
    exact ⟨q, vs, rfl, .inr ⟨h1, r _ G1 H1 (Grow.refl ok1.gh) d'⟩⟩
theorem e_sum {m : M (List Int)} (hc : X.calm = true) (hm : X.mg "sum" = none) (h : PA X [a] (tCons (tEb X J S (eL eI) m) tNil)) (hg : Gl X "sum" := by rfl)
    (he : starEach (a :: []) X.env = (false, eval a X.env) :: starEach [] X.env := by rfl) (hpl : (backTo pos (starEach [] X.env)).any (·.1) = false := by rfl) : DE X J S (.Call (.Name "sum" p) [a] [] pos) eI (mb m fun xs => .ok xs.sum) :=
  pe_imp (pe_callB (cr_sum hc) hg hm (by decide +kernel) h (by decide) (by decide) he hpl) fun σ H Q ⟨G, own, ok, fin⟩ => B_bind Fin.wish ok fin fun xs v G1 H1 g ok1 d r => by
    obtain ⟨q, vs, rfl, h1, h2⟩ := DenB.list ok1.gh d
    rw [DenL.ints h2] at h1
    exact ⟨q, xs, rfl, SqL.of h1, r _ G1 H1 (Grow.refl ok1.gh) (.int _)⟩
def lstMax (d : Int) : List Int → Int
  | [] => d
  | x :: xs => xs.foldl max x
/-- the greatest, the least of ints -/
def maxI : List Int → M Int
  | [] => .no
  | x :: xs => .ok (xs.foldl max x)
def minI : List Int → M Int
  | [] => .no
  | x :: xs => .ok (xs.foldl min x)
theorem foldl_max : ∀ (xs : List Int) (x : Int), xs.foldl max x ∈ x :: xs ∧ ∀ y ∈ x :: xs, y ≤ xs.foldl max x
  | [], x => ⟨List.mem_cons_self, fun y h => by cases h with | head => exact Int.le_refl _ | tail _ h => cases h⟩
  | z :: xs, x => by
    obtain ⟨h1, h2⟩ := foldl_max xs (max x z)
    rw [List.foldl_cons]
    refine ⟨?_, fun y hy => ?_⟩
    · rcases List.mem_cons.mp h1 with h | h
      · rw [h]
        by_cases q : x ≤ z
        · rw [Int.max_eq_right q]; exact List.mem_cons_of_mem _ List.mem_cons_self
        · rw [Int.max_eq_left (by omega)]; exact List.mem_cons_self
      · exact List.mem_cons_of_mem _ (List.mem_cons_of_mem _ h)
    · have hm := h2 (max x z) List.mem_cons_self
      rcases List.mem_cons.mp hy with rfl | hy
      · omega
      · rcases List.mem_cons.mp hy with rfl | hy
        · omega
        · exact h2 y (List.mem_cons_of_mem _ hy)
theorem foldl_min : ∀ (xs : List Int) (x : Int), xs.foldl min x ∈ x :: xs ∧ ∀ y ∈ x :: xs, xs.foldl min x ≤ y
  | [], x => ⟨List.mem_cons_self, fun y h => by cases h with | head => exact Int.le_refl _ | tail _ h => cases h⟩
  | z :: xs, x => by
    obtain ⟨h1, h2⟩ := foldl_min xs (min x z)
    rw [List.foldl_cons]
    refine ⟨?_, fun y hy => ?_⟩
    · rcases List.mem_cons.mp h1 with h | h
      · rw [h]
        by_cases q : x ≤ z
        · rw [Int.min_eq_left q]; exact List.mem_cons_self
        · rw [Int.min_eq_right (by omega)]; exact List.mem_cons_of_mem _ List.mem_cons_self
      · exact List.mem_cons_of_mem _ (List.mem_cons_of_mem _ h)
    · have hm := h2 (min x z) List.mem_cons_self
      rcases List.mem_cons.mp hy with rfl | hy
      · omega
      · rcases List.mem_cons.mp hy with rfl | hy
        · omega
        · exact h2 y (List.mem_cons_of_mem _ hy)
theorem e_maxL {m : M (List Int)} (hc : X.calm = true) (hm : X.mg "max" = none) (h : PA X [a] (tCons (tEb X J S (eL eI) m) tNil)) (hg : Gl X "max" := by rfl)
    (he : starEach (a :: []) X.env = (false, eval a X.env) :: starEach [] X.env := by rfl) (hpl : (backTo pos (starEach [] X.env)).any (·.1) = false := by rfl) : DE X J S (.Call (.Name "max" p) [a] [] pos) eI (mb m fun xs => maxI xs) :=
  pe_imp (pe_callB (cr_max hc) hg hm (by decide +kernel) h (by decide) (by decide) he hpl) fun σ H Q ⟨G, own, ok, fin⟩ => B_bind Fin.wish ok fin fun xs v G1 H1 g ok1 d r => by
    obtain ⟨q, vs, rfl, h1, h2⟩ := DenB.list ok1.gh d
    rw [DenL.ints h2] at h1
    cases xs with
    | nil => exact r.elim
    | cons x xs =>
      refine ⟨q, _, rfl, SqL.of h1, Nat.succ_pos _, fun mx h3 h4 => ?_⟩
      obtain ⟨f1, f2⟩ := foldl_max xs x
      have e : mx = xs.foldl max x := Int.le_antisymm (f2 _ h3) (h4 _ f1)
      rw [e]
      exact r _ G1 H1 (Grow.refl ok1.gh) (.int _)
theorem e_minL {m : M (List Int)} (hc : X.calm = true) (hm : X.mg "min" = none) (h : PA X [a] (tCons (tEb X J S (eL eI) m) tNil)) (hg : Gl X "min" := by rfl)
    (he : starEach (a :: []) X.env = (false, eval a X.env) :: starEach [] X.env := by rfl) (hpl : (backTo pos (starEach [] X.env)).any (·.1) = false := by rfl) : DE X J S (.Call (.Name "min" p) [a] [] pos) eI (mb m fun xs => minI xs) :=
  pe_imp (pe_callB (cr_min hc) hg hm (by decide +kernel) h (by decide) (by decide) he hpl) fun σ H Q ⟨G, own, ok, fin⟩ => B_bind Fin.wish ok fin fun xs v G1 H1 g ok1 d r => by
    obtain ⟨q, vs, rfl, h1, h2⟩ := DenB.list ok1.gh d
    rw [DenL.ints h2] at h1
    cases xs with
    | nil => exact r.elim
    | cons x xs =>
      refine ⟨q, _, rfl, SqL.of h1, Nat.succ_pos _, fun mx h3 h4 => ?_⟩
      obtain ⟨f1, f2⟩ := foldl_min xs x
      have e : mx = xs.foldl min x := Int.le_antisymm (h4 _ f1) (f2 _ h3)
      rw [e]
      exact r _ G1 H1 (Grow.refl ok1.gh) (.int _)
theorem e_max2 {m n : M Int} (hc : X.calm = true) (hm : X.mg "max" = none) (h : PA X [a, b] (tCons (tE X J S eI m) (tCons (tE X J S eI n) tNil))) (hg : Gl X "max" := by rfl)
    (he : starEach (a :: [b]) X.env = (false, eval a X.env) :: starEach [b] X.env := by rfl) (hpl : (backTo pos (starEach [b] X.env)).any (·.1) = false := by rfl) : DE X J S (.Call (.Name "max" p) [a, b] [] pos) eI (mb m fun x => mb n fun y => .ok (max x y)) :=
  pe_imp (pe_callB (call_max2 hc) hg hm (by decide +kernel) h (by decide) (by decide) he hpl) fun σ H Q ⟨G, own, ok, fin⟩ => E_bind Fin.wish ok fin fun x v G1 H1 g ok1 d r => E_bind Fin.wish ok1 r fun y u G2 H2 g2 ok2 d2 r2 => by
    cases d; cases d2
    refine ⟨x, y, rfl, ?_⟩
    rw [show (if y > x then y else x) = max x y by
      by_cases q : y > x
      · rw [if_pos q, Int.max_eq_right (by omega)]
      · rw [if_neg q, Int.max_eq_left (by omega)]]
    exact r2 _ G2 H2 (Grow.refl ok2.gh) (.int _)
theorem e_min2 {m n : M Int} (hc : X.calm = true) (hm : X.mg "min" = none) (h : PA X [a, b] (tCons (tE X J S eI m) (tCons (tE X J S eI n) tNil))) (hg : Gl X "min" := by rfl)
    (he : starEach (a :: [b]) X.env = (false, eval a X.env) :: starEach [b] X.env := by rfl) (hpl : (backTo pos (starEach [b] X.env)).any (·.1) = false := by rfl) : DE X J S (.Call (.Name "min" p) [a, b] [] pos) eI (mb m fun x => mb n fun y => .ok (min x y)) :=
  pe_imp (pe_callB (call_min2 hc) hg hm (by decide +kernel) h (by decide) (by decide) he hpl) fun σ H Q ⟨G, own, ok, fin⟩ => E_bind Fin.wish ok fin fun x v G1 H1 g ok1 d r => E_bind Fin.wish ok1 r fun y u G2 H2 g2 ok2 d2 r2 => by
    cases d; cases d2
    refine ⟨x, y, rfl, ?_⟩
    rw [show (if y < x then y else x) = min x y by
      by_cases q : y < x
      · rw [if_pos q, Int.min_eq_right (by omega)]
      · rw [if_neg q, Int.min_eq_left (by omega)]]
    exact r2 _ G2 H2 (Grow.refl ok2.gh) (.int _)
/-- a list repeated, joined -/
def repM (xs : List α) (k : Int) : M (List α) := if xs.length * k.toNat ≤ line ∧ k < 2 ^ 62 ∧ -(2 ^ 62) < k then .ok (List.replicate k.toNat xs).flatten else .no
def catM (xs ys : List α) : M (List α) := if xs.length + ys.length ≤ line then .ok (xs ++ ys) else .no
theorem DenL.rep {K : PySem.W.Frag} {ca : Str → Addr} {H : Hp} {vs : List V} {ds : List D} (h : DenL K ca H vs ds) : ∀ n, DenL K ca H (List.replicate n vs).flatten (List.replicate n ds).flatten
  | 0 => .nil
  | n + 1 => by
    rw [List.replicate_succ, List.replicate_succ, List.flatten_cons, List.flatten_cons]
    exact h.append (DenL.rep h n)
theorem map_rep (xs : List α) (n : Nat) : (List.replicate n (xs.map enc)).flatten = (List.replicate n xs).flatten.map enc := by
  rw [List.map_flatten, List.map_replicate]
theorem o_rep {m : M (List α)} {n : M Int} (ha : DB X J S a (eL enc) m) (hb : DE X J S b eI n) : DO X J S (.BinOp a .Mult b pos) enc (mb m fun xs => mb n fun k => repM xs k) :=
  pe_imp (pe_op op_rep ha hb) fun σ H Q ⟨G, own, ok, fin⟩ => B_bind FinO.wish ok fin fun xs v G1 H1 g ok1 d r => E_bind FinO.wish ok1 r fun i u G2 H2 g2 ok2 d2 r2 => by
    cases d2
    obtain ⟨q, vs, rfl, h1, h2⟩ := DenB.list ok2.gh (d.grow g2)
    have el := h2.length
    rw [List.length_map] at el
    unfold repM at r2
    split at r2
    · rename_i hz
      refine ⟨q, i, vs, rfl, rfl, h1, by omega, by omega, by rw [el]; exact Nat.le_trans hz.1 line_le, fun l hl => r2 l _ G2 _ (Grow.allocO ok2.gh hl) hl upd_same (Same.free ok2.gh hl) ?_⟩
      rw [← map_rep]
      exact h2.rep _
    · exact r2.elim
theorem o_cat {m n : M (List α)} (ha : DB X J S a (eL enc) m) (hb : DB X J S b (eL enc) n) : DO X J S (.BinOp a .Add b pos) enc (mb m fun xs => mb n fun ys => catM xs ys) :=
  pe_imp (pe_op op_cat ha hb) fun σ H Q ⟨G, own, ok, fin⟩ => B_bind FinO.wish ok fin fun xs v G1 H1 g ok1 d r => B_bind FinO.wish ok1 r fun ys u G2 H2 g2 ok2 d2 r2 => by
    obtain ⟨q, vs, rfl, h1, h2⟩ := DenB.list ok2.gh (d.grow g2)
    obtain ⟨q', ws, rfl, h1', h2'⟩ := DenB.list ok2.gh d2
    have el := h2.length
    have el' := h2'.length
    rw [List.length_map] at el el'
    unfold catM at r2
    split at r2
    · rename_i hz
      refine ⟨q, q', vs, ws, rfl, rfl, h1, h1', by rw [el, el']; exact Nat.le_trans hz line_le, fun l hl => r2 l _ G2 _ (Grow.allocO ok2.gh hl) hl upd_same (Same.free ok2.gh hl) ?_⟩
      rw [List.map_append]
      exact h2.append h2'
    · exact r2.elim
theorem e_catT {m n : M (List α)} (ha : DE X J S a (eT enc) m) (hb : DE X J S b (eT enc) n) : DE X J S (.BinOp a .Add b pos) (eT enc) (mb m fun xs => mb n fun ys => catM xs ys) :=
  pe_imp (pe_op op_catA ha hb) fun σ H Q ⟨G, own, ok, fin⟩ => E_bind Fin.wish ok fin fun xs v G1 H1 g ok1 d r => E_bind Fin.wish ok1 r fun ys u G2 H2 g2 ok2 d2 r2 => by
    have d1' := d.mono g2.g
    have d2' := d2
    obtain ⟨q, vs, rfl, h1, h2⟩ := Den.tuple (X := X) ok2.gh d1'
    obtain ⟨q', ws, rfl, h1', h2'⟩ := Den.tuple (X := X) ok2.gh d2
    have el := h2.length
    have el' := h2'.length
    rw [List.length_map] at el el'
    unfold catM at r2
    split at r2
    · rename_i hz
      refine ⟨q, q', vs, ws, rfl, rfl, h1, h1', by rw [el, el']; exact Nat.le_trans hz line_le, fun e0 => ?_, fun e0 e1 => ?_, fun e0 e1 l hl => ?_⟩
      · have : xs = [] := by rw [e0] at el; exact List.length_eq_zero_iff.mp el.symm
        subst this
        exact r2 _ G2 H2 (Grow.refl ok2.gh) d2'
      · have : ys = [] := by rw [e1] at el'; exact List.length_eq_zero_iff.mp el'.symm
        subst this
        rw [List.append_nil] at r2
        exact r2 _ G2 H2 (Grow.refl ok2.gh) d1'
      · refine r2 _ _ _ (Grow.alloc ok2.gh hl) (.tup (.of upd_same) ?_)
        rw [List.map_append]
        exact (h2.append h2').mono (same_upd (Same.free ok2.gh hl))
    · exact r2.elim
/-- list(range(..)) -/
theorem DenL.rgV {K : PySem.W.Frag} {ca : Str → Addr} {H : Hp} (i j : Int) : DenL K ca H (L2.rgV i j) ((rng i j).map eI) := by
  have e : L2.rgV i j = (rng i j).map V.int := by
    unfold L2.rgV rng
    rw [List.map_map]
    rfl
  rw [e]
  exact DL.DenL.of_ints _
def rngL (lo hi : Int) : M (List Int) := if okI lo && okI hi && decide ((hi - lo).toNat ≤ line) then .ok (rng lo hi) else .no
theorem o_rng1 {m : M Int} {p2 pos2 : Pos} (hc : X.calm = true) (hm : X.mg "list" = none) (hm2 : X.mg "range" = none) (ha : DE X J S a eI m) (hg : Gl X "list" := by rfl) (hg2 : Gl X "range" := by rfl) (na : starEach [a] X.env = (false, eval a X.env) :: starEach [] X.env := by rfl)
    (nb : starEach [Expr.Call (.Name "range" p2) [a] [] pos2] X.env = (false, eval (.Call (.Name "range" p2) [a] [] pos2) X.env) :: starEach [] X.env := by rfl) :
    DO X J S (.Call (.Name "list" p) [.Call (.Name "range" p2) [a] [] pos2] [] pos) eI (mb m fun n => rngL 0 n) :=
  pe_imp (pe_listRg hc hg hm (prg_1 hg2 hm2 ha na) nb) fun σ H Q ⟨G, own, ok, fin⟩ => E_bind FinO.wish ok fin fun i v G1 H1 g ok1 d r => by
    cases d
    unfold rngL at r
    split at r
    · rename_i h
      simp only [okI, Bool.and_eq_true, decide_eq_true_eq] at h
      refine ⟨i, rfl, ⟨h.1.1.1, h.1.1.2, h.1.2.1, h.1.2.2, Nat.le_trans h.2 (by decide)⟩, fun q hq => r q _ G1 _ (Grow.allocO ok1.gh hq) hq upd_same (Same.free ok1.gh hq) (DenL.rgV 0 i)⟩
    · exact r.elim
theorem o_rng2 {m n : M Int} {p2 pos2 : Pos} (hc : X.calm = true) (hm : X.mg "list" = none) (hm2 : X.mg "range" = none) (ha : DE X J S a eI m) (hb : DE X J S b eI n) (hg : Gl X "list" := by rfl) (hg2 : Gl X "range" := by rfl) (na : starEach [a, b] X.env = (false, eval a X.env) :: starEach [b] X.env := by rfl) (na2 : starEach [b] X.env = (false, eval b X.env) :: starEach [] X.env := by rfl)
    (hp2 : (backTo pos2 (starEach [b] X.env)).any (·.1) = false := by rfl) (nb : starEach [Expr.Call (.Name "range" p2) [a, b] [] pos2] X.env = (false, eval (.Call (.Name "range" p2) [a, b] [] pos2) X.env) :: starEach [] X.env := by rfl) :
    DO X J S (.Call (.Name "list" p) [.Call (.Name "range" p2) [a, b] [] pos2] [] pos) eI (mb m fun i => mb n fun j => rngL i j) :=
  pe_imp (pe_listRg hc hg hm (prg_2 hg2 hm2 ha hb na na2 hp2) nb) fun σ H Q ⟨G, own, ok, fin⟩ => E_bind FinO.wish ok fin fun i v G1 H1 g ok1 d r => E_bind FinO.wish ok1 r fun j u G2 H2 g2 ok2 d2 r2 => by
    cases d; cases d2
    unfold rngL at r2
    split at r2
    · rename_i h
      simp only [okI, Bool.and_eq_true, decide_eq_true_eq] at h
      refine ⟨i, j, rfl, rfl, ⟨h.1.1.1, h.1.1.2, h.1.2.1, h.1.2.2, Nat.le_trans h.2 (by decide)⟩, fun q hq => r2 q _ G2 _ (Grow.allocO ok2.gh hq) hq upd_same (Same.free ok2.gh hq) (DenL.rgV i j)⟩
    · exact r2.elim

/-! ### isinstance -/
theorem e_isi {m : M α} {t : α → Bool} {cv : V} {u : Value} (hm : X.mg "isinstance" = none) (hT : ClsV cv u)
    (hty : ∀ z v G H own, Same G H → DenB X J G H own v (enc z) → ∃ t', TyX X.K H v t' ∧ PySem.W.kitOne X.K t' u = some (t z)) (h : PA X [a, b] (tCons (tEb X J S enc m) (tCons (tC cv) tNil))) (hg : Gl X "isinstance" := by rfl)
    (he : starEach (a :: [b]) X.env = (false, eval a X.env) :: starEach [b] X.env := by rfl) (hpl : (backTo pos (starEach [b] X.env)).any (·.1) = false := by rfl) : DE X J S (.Call (.Name "isinstance" p) [a, b] [] pos) eB (mb m fun z => .ok (t z)) :=
  pe_imp (pe_callB call_isi hg hm PyProof.Rows.boot_isinstance h (by decide) (by decide) he hpl) fun σ H Q ⟨G, own, ok, fin⟩ => B_bind Fin.wish ok fin fun z v G1 H1 g ok1 d r => by
    obtain ⟨t', h1, h2⟩ := hty z v G1 H1 own ok1.gh d
    exact ⟨v, cv, t', u, _, rfl, hT, h1, h2, r _ G1 H1 (Grow.refl ok1.gh) (.bl _)⟩
theorem ty_int {T : String} {r : Bool} (h : kitB "int" T = some r) : ∀ (z : Int) v G H own, Same G H → DenB X J G H own v (eI z) → ∃ t', TyX X.K H v t' ∧ PySem.W.kitOne X.K t' (.type T) = some ((fun _ => r) z) :=
  fun z v G H own sg d => ⟨_, .base (by rw [d.int]; exact .int _), kit_ty h⟩
theorem ty_bl {T : String} {r : Bool} (h : kitB "bool" T = some r) : ∀ (z : Bool) v G H own, Same G H → DenB X J G H own v (eB z) → ∃ t', TyX X.K H v t' ∧ PySem.W.kitOne X.K t' (.type T) = some ((fun _ => r) z) :=
  fun z v G H own sg d => ⟨_, .base (by rw [d.bl]; exact .bl _), kit_ty h⟩
theorem ty_str {T : String} {r : Bool} (h : kitB "str" T = some r) : ∀ (z : Str) v G H own, Same G H → DenB X J G H own v (eS z) → ∃ t', TyX X.K H v t' ∧ PySem.W.kitOne X.K t' (.type T) = some ((fun _ => r) z) :=
  fun z v G H own sg d => ⟨_, .base (by rw [d.str]; exact .str _), kit_ty h⟩
theorem ty_lst {T : String} {r : Bool} (h : kitB "list" T = some r) : ∀ (z : List α) v G H own, Same G H → DenB X J G H own v (eL enc z) → ∃ t', TyX X.K H v t' ∧ PySem.W.kitOne X.K t' (.type T) = some ((fun _ => r) z) :=
  fun z v G H own sg d => by
    obtain ⟨q, vs, rfl, h1, h2⟩ := DenB.list sg d
    exact ⟨_, .base (.lst h1), kit_ty h⟩
theorem sqT_ty {K : PySem.W.Frag} {H : Hp} {q : Addr} {vs : List V} (h : SqT K H q vs) : TyX K H (.ref q) (.type "tuple") := by
  rcases h with (h | ⟨o, h⟩) | ⟨o, its, n, h1, h2, _⟩
  · exact .base (.tup h)
  · exact .fTuple h
  · exact .kTuple h1 h2
theorem ty_tup {T : String} {r : Bool} (h : kitB "tuple" T = some r) : ∀ (z : List α) v G H own, Same G H → DenB X J G H own v (eT enc z) → ∃ t', TyX X.K H v t' ∧ PySem.W.kitOne X.K t' (.type T) = some ((fun _ => r) z) :=
  fun z v G H own sg d => by
    obtain ⟨q, vs, rfl, h1, h2⟩ := DenB.tup sg d
    exact ⟨_, sqT_ty h1, kit_ty h⟩

/-! ### == of data -/
structure PdE {α : Type} (enc : α → D) (pd : α → PyData) (n : Nat) : Prop where
  dp : ∀ {K : PySem.W.Frag} {ca : Str → Addr} {G H : Hp} {v : V} {x : α}, Same G H → Den K ca G v (enc x) → Dp K H v (pd x)
  lay : ∀ x, (pd x).canLay0 = true
  dep : ∀ x, (pd x).depth ≤ n
  eq : ∀ x y, PyData.eqv (pd x) (pd y) = true ↔ x = y
theorem pd_int : PdE eI PyData.int 1 := ⟨fun _ d => by cases d; exact .int _, fun _ => rfl, fun _ => by simp [PyData.depth], fun x y => by simp [PyData.eqv]⟩
theorem pd_bl : PdE eB PyData.bool 1 := ⟨fun _ d => by cases d; exact .bl _, fun _ => rfl, fun _ => by simp [PyData.depth], fun x y => by simp [PyData.eqv]⟩
theorem pd_all {pd : α → PyData} {n : Nat} (h : PdE enc pd n) : (∀ {K : PySem.W.Frag} {ca : Str → Addr} {G H : Hp} {vs : List V} {xs : List α}, Same G H → DenL K ca G vs (xs.map enc) → DpAll K H vs (xs.map pd)) ∧ (∀ xs : List α, PyData.canLayAll0 (xs.map pd) = true) ∧
    (∀ xs : List α, PyData.depthAll (xs.map pd) ≤ n) ∧ ∀ xs ys : List α, PyData.eqvAll (xs.map pd) (ys.map pd) = true ↔ xs = ys := by
  refine ⟨fun {K ca G H vs xs} sg => ?_, fun xs => ?_, fun xs => ?_, fun xs => ?_⟩
  · induction xs generalizing vs with
    | nil => intro d; cases d; exact .nil
    | cons x xs ih => intro d; cases d with | cons d1 d2 => exact .cons (h.dp sg d1) (ih d2)
  · induction xs with
    | nil => rfl
    | cons x xs ih => rw [List.map_cons, PyData.canLayAll0, h.lay, ih]; rfl
  · induction xs with
    | nil => simp [PyData.depthAll]
    | cons x xs ih =>
      rw [List.map_cons, PyData.depthAll]
      exact Nat.max_le.mpr ⟨h.dep x, ih⟩
  · induction xs with
    | nil => intro ys; cases ys <;> simp [PyData.eqvAll]
    | cons x xs ih =>
      intro ys
      cases ys with
      | nil => simp [PyData.eqvAll]
      | cons y ys =>
        rw [List.map_cons, List.map_cons, PyData.eqvAll, Bool.and_eq_true, h.eq, ih, List.cons.injEq]
theorem pd_lst {pd : α → PyData} {n : Nat} (h : PdE enc pd n) : PdE (eL enc) (fun xs => .list (xs.map pd)) (n + 1) := by
  obtain ⟨h1, h2, h3, h4⟩ := pd_all h
  refine ⟨fun sg d => ?_, fun x => h2 x, fun x => ?_, fun x y => ?_⟩
  · cases d with | lst q t => exact .lst (SqL.of (sg _ _ q)) (h1 sg t)
  · simp only [PyData.depth]; have := h3 x; omega
  · rw [PyData.eqv]; exact h4 x y
theorem pd_tup {pd : α → PyData} {n : Nat} (h : PdE enc pd n) : PdE (eT enc) (fun xs => .tuple (xs.map pd)) (n + 1) := by
  obtain ⟨h1, h2, h3, h4⟩ := pd_all h
  refine ⟨fun sg d => ?_, fun x => h2 x, fun x => ?_, fun x y => ?_⟩
  · cases d with | tup q t => exact .tup (same_seqT sg q) (h1 sg t)
  · simp only [PyData.depth]; have := h3 x; omega
  · rw [PyData.eqv]; exact h4 x y
/-- lent lists as well -/
theorem DenB.dp {pd : α → PyData} {n : Nat} {G H : Hp} {own : Addr → Option Nat} {v : V} {x : α} (h : PdE enc pd n) (sg : Same G H) (d : DenB X J G H own v (enc x)) : Dp X.K H v (pd x) := by
  rcases d with d | ⟨q, vs, ds, rfl, e, h3, h4, h5⟩
  · exact h.dp sg d
  · have d' : Den X.K J.ca (upd G q (.lst vs)) (.ref q) (enc x) := by
      rw [e]
      exact .lst upd_same (h4.mono (same_upd h5))
    exact h.dp (H := H) (fun b o z => by
      by_cases hb : b = q
      · subst hb; rw [upd_same] at z; cases z; exact h3
      · rw [upd_ne hb] at z; exact sg _ _ z) d'
theorem c_eqD [DecidableEq α] {pd : α → PyData} {n : Nat} (h : PdE enc pd n) (hn : n ≤ 64) (hu : X.A.units + 64 < cLine) : CmpD X J .Eq enc enc fun x y => decide (x = y) := ⟨_, op_eqD hu, fun x y v u G H own Q sg d1 d2 q => by
  have sh : ∀ z, SeqAt.shaped (pd z) = true := fun z => by
    unfold SeqAt.shaped
    rw [h.lay, decide_eq_true (Nat.le_trans (h.dep z) hn)]; rfl
  refine ⟨pd x, pd y, d1.dp h sg, d2.dp h sg, sh x, sh y, ?_⟩
  rw [show PyData.eqv (pd x) (pd y) = decide (x = y) by rw [Bool.eq_iff_iff, h.eq, decide_eq_true_eq]]
  exact q⟩
theorem c_neD [DecidableEq α] {pd : α → PyData} {n : Nat} (h : PdE enc pd n) (hn : n ≤ 64) (hu : X.A.units + 64 < cLine) : CmpD X J .NotEq enc enc fun x y => !decide (x = y) := ⟨_, op_neD hu, fun x y v u G H own Q sg d1 d2 q => by
  have sh : ∀ z, SeqAt.shaped (pd z) = true := fun z => by
    unfold SeqAt.shaped
    rw [h.lay, decide_eq_true (Nat.le_trans (h.dep z) hn)]; rfl
  refine ⟨pd x, pd y, d1.dp h sg, d2.dp h sg, sh x, sh y, ?_⟩
  rw [show PyData.eqv (pd x) (pd y) = decide (x = y) by rw [Bool.eq_iff_iff, h.eq, decide_eq_true_eq]]
  exact q⟩
end
end DL

namespace DL
open PySem PySem.Spec PyProof.Rows L2
variable {X : Cx} {J : Jx}

/-! ### exceptions of own classes are made -/
theorem mkN {CX : CXT} {x : Str} {C fI : Addr} {k : Nat} {fd : FuncData} {ps : List Str} {sp : Sp} {e : Expr} {es : List Expr} {ta : TA} {p pos : Pos}
    (T : OexC X.K C) (hI : PySem.W.findIn X.K (.ref C) "__init__" = some (some (.ref fI)))
    (hT : PySem.W.typeIn X.K (.ref fI) = some (.type "function")) (F1 : FnOk X.prog X.w X.K X.mg X.base CX k fI fd ps sp)
    (hr : Room (k + 1) X.A) (hb : Binds X.K fd ps []) (hx : Passes CX X fun _ _ _ => False) (hg : Gl X x)
    (hm : X.mg x = some (.ref C)) (ha : PA X (e :: es) ta) (hdb : (x == ("__debug__" : Str)) = false)
    (he : starEach (e :: es) X.env = (false, eval e X.env) :: starEach es X.env)
    (hpl : (backTo pos (starEach es X.env)).any (·.1) = false) :
    L2N.PMk X (.Call (.Name x p) (e :: es) [] pos) (tMkO C sp [] ta) := by
  intro pins s σ H Q I h
  obtain ⟨nm, q, N, bs, bm, sn, sub, ab, col, dd, k0, k1, k2, k3, k5, hC, hbm⟩ := T.cls
  refine wpAny_Call_Name_kw (ld_glob I hg hm ?_ hdb)
  refine PySem.W.callWith_K (h₀ := X.base) I.ok.mod.kin T.kC
    (thn (ha.run pos pins s σ H _ I h) fun us t ⟨vs, H1, I1, r1, hz, q1⟩ => ⟨I1.kIn, ?_⟩) he hpl
  obtain ⟨hp, g, dr, tk, os⟩ := t
  have hsz : hp.objs.size ≤ hp.objs.size + 1 := Nat.le_succ _
  have hq := q1 (hp.objs.size + 1) (I1.hok.fresh hsz)
  have kk : ∀ b o, hp.get? b = some o →
      ((hp.push (PySem.W.kdv_tup us)).push (PySem.HandSPX.excO C hp.objs.size)).get? b = some o :=
    fun b o z => Heap.get?_push_of_some _ (Heap.get?_push_of_some _ z)
  have hnew : ((hp.push (PySem.W.kdv_tup us)).push (PySem.HandSPX.excO C hp.objs.size)).get? (hp.objs.size + 1) =
      some (PySem.HandSPX.excO C hp.objs.size) := by heap_get
  have I2 := I1.laid (t' := tk) kk hsz (o := exo (hp.objs.size + 1) C none) (exo_ok hnew)
  have r2 : Vals (V.ref (hp.objs.size + 1) :: (vs ++ [])) (Value.ref (hp.objs.size + 1) :: (us ++ [])) := .cons rfl (r1.append .nil)
  have hl : (Value.ref (hp.objs.size + 1) :: us ++ []).length = ps.length := by
    have z := r2.length
    rw [F1.len _ _ _ _ hq] at z
    exact z.symm
  have hus : us.length ≤ sizeLine := by rw [← Paired.length r1]; exact Nat.le_trans hz (by decide)
  have hbb : BindsTo ⟨(hp.push (PySem.W.kdv_tup us)).push (PySem.HandSPX.excO C hp.objs.size), g, dr, tk, os⟩ fd
      ⟨Value.ref (hp.objs.size + 1) :: us, []⟩ (ps.zip (Value.ref (hp.objs.size + 1) :: (us ++ []))) :=
    hb _ (Value.ref (hp.objs.size + 1) :: us) I2.kIn hl
  show wpAny _ _ (call (.ref C) us) _ _ _
  refine wpAny_call (PySem.HandSPX.call_own F.excBase_ValueError
    (fun Y => PySem.HandSPX.refsVE_contains Y bm hbm) (I1.kIn _ _ hC)
    (PySem.W.looks_findIn I1.kIn hI) (fun self => PySem.W.bind_fn I1.kIn self hT) hus
    (codeAny_mono (F1.run _ X.stack _ _ ⟨Value.ref (hp.objs.size + 1) :: us, []⟩ (Value.ref (hp.objs.size + 1) :: (us ++ []))
      _ _ (fun _ _ _ => False) (hr.make C us []) (I2.env0.make C us [])
      hbb r2 hq) fun r s' z => ?_))
  cases r with
  | error er => exact hx pins σ _ _ er s' I2 z
  | ok fl =>
    cases fl with
    | ret u =>
      obtain ⟨v, H2, os2, bare2, un2, hok2, rv, ev, d, fs, ea, ed, hd1, q2⟩ := z
      subst ev
      obtain ⟨h2, g2, d2, t2, os'⟩ := s'
      obtain ⟨t0, G, J', kG, ge, hoe, na⟩ := mk_end0 (d2 := d2) (t2 := t2) I1 hsz kk un2 hok2 os2 bare2 ea ed hd1
      exact ⟨rv, hp.objs.size + 1, _, _, ⟨G, g2, d2, t2, os'⟩, _, .ref C, some d, rfl, J', kG, ge, hoe,
        ⟨rfl, rfl, fun vs hv => by cases hv; rfl⟩, rfl, rfl, na, rfl, bare2, raises_own T.exC T.tyC, q2⟩
    | next => exact z.elim
    | brk => exact z.elim
    | cont => exact z.elim

/-- __init__(self, f): self.f = f -/
def spI1 (K : PySem.W.Frag) (C : Addr) (f : Str) : Sp := fun vs H Q _ => ∃ (a : Addr) (v : V), vs = [.ref a, v] ∧ H a = some (exo a C none) ∧
  ∀ d, H d = none → d ≠ a → Q .non (upd (upd H d (exd d [(f, v)])) a (exo a C (some d)))
/-- __init__(self, f, g): both stored -/
def spI2 (K : PySem.W.Frag) (C : Addr) (f g : Str) : Sp := fun vs H Q _ => ∃ (a : Addr) (v w : V), vs = [.ref a, v, w] ∧ H a = some (exo a C none) ∧
  ∀ d, H d = none → d ≠ a → Q .non (upd (upd (upd H d (exd d [(f, v)])) a (exo a C (some d))) d (exd d [(g, w), (f, v)]))
/-- what the written part says of such a class and its __init__ -/
structure Xc (K : PySem.W.Frag) (mg : Str → Option Value) (ca : Str → Addr) (cn : Str) (fI : Addr) : Prop where
  ox : OexC K (ca cn)
  xf : XfC K (ca cn)
  ini : PySem.W.findIn K (.ref (ca cn)) "__init__" = some (some (.ref fI))
  tf : PySem.W.typeIn K (.ref fI) = some (.type "function")
  gm : mg cn = some (.ref (ca cn))
  em : PySem.W.exmOne K (.ref (ca cn)) (.ref (ca cn)) = some true
section
variable {P : Program} {w : World} {K : PySem.W.Frag} {mg : Str → Option Value} {base : Heap} {CX : CXT}
theorem init1_ok {cn qual f : Str} {st : Stmt} {fI : Addr} {fd : FuncData} {ca : Str → Addr} {p1 p2 p3 p4 : Pos} (T : Xc K mg ca cn fI) (F : Fun K "__init__" qual st fI fd)
    (hb : defBody st = [.Assign [.Attribute (.Name "self" p1) f p2] (.Name f p3) p4]) (S : FnScope ["self", f] ["self", f] (defScope st)) (hno : PySem.W.findIn K (.ref (ca cn)) f = some none)
    (v1 : Vis (defScope st) "self") (v2 : Vis (defScope st) f) (d1 : (f == ("__debug__" : Str)) = false) (d2 : (f == ("__classdict__" : Str)) = false)
    (hsw : ∀ env : Env, env.scope = defScope st → swapsWith (.Name f p3) (some (.Attribute (.Name "self" p1) f p2)) p4.line env = pure false) :
    FnOk P w K mg base CX 1 fI fd ["self", f] (spI1 K (ca cn) f) := by
  obtain ⟨oc, od, kV, doc, pm, an, cdv, ct, osl, rfl, lk, hcd⟩ := F.ex
  refine fn_of lk hcd S (fun vs H Q E ⟨a, v, e, _⟩ => by rw [e]; rfl) fun A outer s H vs Q E hr ⟨a, v, e, ha, q⟩ => ?_
  subst e
  rw [hb]
  refine ⟨_, pss_one (ps_ost (pe_var (i := 0) rfl v1) (pe_var (i := 1) rfl v2 d1 d2) (hsw _ rfl)), ?_⟩
  exact ⟨v, rfl, .ref a, rfl, a, ca cn, rfl, T.ox, hno, .inl ⟨ha, fun dx h1 h2 => q dx h1 h2⟩⟩
theorem init2_ok {cn qual f g : Str} {st : Stmt} {fI : Addr} {fd : FuncData} {ca : Str → Addr} {p1 p2 p3 p4 q1 q2 q3 q4 : Pos} (T : Xc K mg ca cn fI) (F : Fun K "__init__" qual st fI fd)
    (hb : defBody st = [.Assign [.Attribute (.Name "self" p1) f p2] (.Name f p3) p4, .Assign [.Attribute (.Name "self" q1) g q2] (.Name g q3) q4]) (S : FnScope ["self", f, g] ["self", f, g] (defScope st))
    (hno : PySem.W.findIn K (.ref (ca cn)) f = some none) (hno2 : PySem.W.findIn K (.ref (ca cn)) g = some none)
    (v1 : Vis (defScope st) "self") (v2 : Vis (defScope st) f) (v3 : Vis (defScope st) g) (d1 : (f == ("__debug__" : Str)) = false) (d2 : (f == ("__classdict__" : Str)) = false) (d3 : (g == ("__debug__" : Str)) = false) (d4 : (g == ("__classdict__" : Str)) = false)
    (hsw : ∀ env : Env, env.scope = defScope st → swapsWith (.Name f p3) (some (.Attribute (.Name "self" p1) f p2)) p4.line env = pure false)
    (hsw2 : ∀ env : Env, env.scope = defScope st → swapsWith (.Name g q3) (some (.Attribute (.Name "self" q1) g q2)) q4.line env = pure false) :
    FnOk P w K mg base CX 1 fI fd ["self", f, g] (spI2 K (ca cn) f g) := by
  obtain ⟨oc, od, kV, doc, pm, an, cdv, ct, osl, rfl, lk, hcd⟩ := F.ex
  refine fn_of lk hcd S (fun vs H Q E ⟨a, v, w, e, _⟩ => by rw [e]; rfl) fun A outer s H vs Q E hr ⟨a, v, w, e, ha, q⟩ => ?_
  subst e
  rw [hb]
  refine ⟨_, pss_cons (ps_ost (pe_var (i := 0) rfl v1) (pe_var (i := 1) rfl v2 d1 d2) (hsw _ rfl)) (pss_one (ps_ost (pe_var (i := 0) rfl v1) (pe_var (i := 2) rfl v3 d3 d4) (hsw2 _ rfl))), ?_⟩
  refine ⟨v, rfl, .ref a, rfl, a, ca cn, rfl, T.ox, hno, .inl ⟨ha, fun dx h1 h2 => ?_⟩⟩
  refine ⟨w, rfl, .ref a, rfl, a, ca cn, rfl, T.ox, hno2, .inr ⟨dx, [(f, v)], upd_same, ?_, (by show 1 ≤ 900; decide), q dx h1 h2⟩⟩
  rw [upd_ne h2, upd_same]
end

section
variable {α β γ δ ρ : Type} {S S1 : List Sl} {N : β → List Sl} {L : γ → List Sl} {R : ρ → RV} {enc : α → D} {a b c e : Expr} {es : List Expr} {pos p : Pos} {k j : Nat} {rest body : List Stmt}
theorem pass_no {hx : L2N.Takes X J.W} : Passes (L2N.CX X.prog X.w) X fun _ _ _ => False := L2N.passes_call hx fun _ _ _ _ h => h.elim
/-- raise X(e), X's __init__ stores one field -/
theorem ss_raise1 {m : M α} {cn f : Str} {fI : Addr} {fd : FuncData} (C : CxD X J k) (hk : 2 ≤ k) (T : Xc X.K X.mg J.ca cn fI) (F1 : FnOk X.prog X.w X.K X.mg X.base (L2N.CX X.prog X.w) 1 fI fd ["self", f] (spI1 X.K (J.ca cn) f)) (hb : Binds X.K fd ["self", f] [])
    (ha : PA X [e] (tCons (tE X J S enc m) tNil)) (hw : Wk S J.Sx) (hg : Gl X cn := by rfl) (hdb : (cn == ("__debug__" : Str)) = false := by decide) (he : starEach (e :: []) X.env = (false, eval e X.env) :: starEach [] X.env := by rfl) (hpl : (backTo pos (starEach [] X.env)).any (·.1) = false := by rfl) {pos2 : Pos} :
    DSs X J S (.Raise (some (.Call (.Name cn p) [e] [] pos)) none pos2 :: rest) N L R (mb m fun z => .er ⟨cn, [(f, enc z)]⟩) :=
  pss_imp (pss_cons (L2N.ps_raise C.calm C.tk (mkN T.ox T.ini T.tf F1 (C.room.mono hk) hb (pass_no (hx := C.tk)) hg T.gm ha hdb he hpl)) pss_never) fun Dn σ H ⟨G, own, ok, fin⟩ =>
    E_bind (FinS.wish hw) ok ⟨fin, ok⟩ fun z v G1 H1 g ok1 d r => by
      refine ⟨(by decide : 1 ≤ 1000), fun a hn => ⟨a, v, rfl, upd_same, fun dx h1 h2 => ?_⟩⟩
      have hd1 : H1 dx = none := by rw [upd_ne h2] at h1; exact h1
      refine ⟨rfl, dx, [(f, v)], upd_same, by rw [upd_ne h2, upd_same], hd1, ?_⟩
      refine r.1 (.ref (J.ca cn)) (some dx) σ G1 _ own (Same.refl _) ?_ ⟨rfl, .inr ⟨dx, _, rfl, upd_same, .cons d .nil⟩⟩
      refine (ok1.grow ⟨Same.refl _, fun b o z => ?_, fun b o z => ?_, fun _ _ => rfl⟩).weak hw
      · have n1 : b ≠ a := ne_of_none z hn
        have n2 : b ≠ dx := ne_of_none z hd1
        rw [upd_ne n2, del_ne n1, upd_ne n1, upd_ne n2, upd_ne n1]; exact z
      · have z' := ok1.gh b o z
        have n1 : b ≠ a := ne_of_none z' hn
        have n2 : b ≠ dx := ne_of_none z' hd1
        rw [upd_ne n2, del_ne n1, upd_ne n1, upd_ne n2, upd_ne n1]; exact z'
theorem ss_raise2 {enb : β → D} {m : M α} {n : M β} {cn f g : Str} {fI : Addr} {fd : FuncData} {N : δ → List Sl} (C : CxD X J k) (hk : 2 ≤ k) (T : Xc X.K X.mg J.ca cn fI) (F1 : FnOk X.prog X.w X.K X.mg X.base (L2N.CX X.prog X.w) 1 fI fd ["self", f, g] (spI2 X.K (J.ca cn) f g)) (hb : Binds X.K fd ["self", f, g] [])
    (ha : PA X [e, c] (tCons (tE X J S enc m) (tCons (tE X J S enb n) tNil))) (hw : Wk S J.Sx) (hg : Gl X cn := by rfl) (hdb : (cn == ("__debug__" : Str)) = false := by decide) (he : starEach (e :: [c]) X.env = (false, eval e X.env) :: starEach [c] X.env := by rfl) (hpl : (backTo pos (starEach [c] X.env)).any (·.1) = false := by rfl) {pos2 : Pos} :
    DSs X J S (.Raise (some (.Call (.Name cn p) [e, c] [] pos)) none pos2 :: rest) N L R (mb m fun z => mb n fun y => .er ⟨cn, [(g, enb y), (f, enc z)]⟩) :=
  pss_imp (pss_cons (L2N.ps_raise C.calm C.tk (mkN T.ox T.ini T.tf F1 (C.room.mono hk) hb (pass_no (hx := C.tk)) hg T.gm ha hdb he hpl)) pss_never) fun Dn σ H ⟨G, own, ok, fin⟩ =>
    E_bind (FinS.wish hw) ok ⟨fin, ok⟩ fun z v G0 H0 g0 ok0 d0 r0 => E_bind (FinS.wish hw) ok0 r0 fun y w G1 H1 g1 ok1 d1 r => by
      refine ⟨(by decide : 2 ≤ 1000), fun a hn => ⟨a, v, w, rfl, upd_same, fun dx h1 h2 => ?_⟩⟩
      have hd1 : H1 dx = none := by rw [upd_ne h2] at h1; exact h1
      refine ⟨rfl, dx, [(g, w), (f, v)], by rw [upd_ne (Ne.symm h2), upd_same], upd_same, hd1, ?_⟩
      refine r.1 (.ref (J.ca cn)) (some dx) σ G1 _ own (Same.refl _) ?_ ⟨rfl, .inr ⟨dx, _, rfl, upd_same, .cons d1 (.cons (d0.mono g1.g) .nil)⟩⟩
      refine (ok1.grow ⟨Same.refl _, fun b o z => ?_, fun b o z => ?_, fun _ _ => rfl⟩).weak hw
      · have n1 : b ≠ a := ne_of_none z hn
        have n2 : b ≠ dx := ne_of_none z hd1
        rw [upd_ne n2, del_ne n1, upd_ne n2, upd_ne n1, upd_ne n2, upd_ne n1]; exact z
      · have z' := ok1.gh b o z
        have n1 : b ≠ a := ne_of_none z' hn
        have n2 : b ≠ dx := ne_of_none z' hd1
        rw [upd_ne n2, del_ne n1, upd_ne n2, upd_ne n1, upd_ne n2, upd_ne n1]; exact z'

/-! ### try: .. except X as n: .. -/
def noEr {α : Type} (m : M α) : M α := match m with
  | .ok x => .ok x
  | _ => .no
@[simp] theorem noEr_ok {α : Type} (x : α) : noEr (.ok x) = .ok x := rfl
def tryM {β γ ρ : Type} (cn : Str) (m : M (Out β γ ρ)) (f : List (Str × D) → M (Out β γ ρ)) : M (Out β γ ρ) := match m with
  | .er x => if x.cls = cn then noEr (f x.args) else .no
  | .ok o => .ok o
  | .no => .no
@[simp] theorem tryM_ok {β γ ρ : Type} (cn : Str) (o : Out β γ ρ) (f : List (Str × D) → M (Out β γ ρ)) : tryM cn (.ok o) f = .ok o := rfl
theorem tryM_er {β γ ρ : Type} (cn : Str) (a : List (Str × D)) (f : List (Str × D) → M (Out β γ ρ)) : tryM cn (.er ⟨cn, a⟩) f = noEr (f a) := if_pos rfl
abbrev js (J : Jx) : Jx := ⟨J.ca, fun _ _ _ _ => False, J.B, []⟩
theorem Ok.unset {K : PySem.W.Frag} {ca : Str → Addr} {B : Bs} {G H : Hp} {own : Addr → Option Nat} {σ : L2.St} {i : Nat} (k : Ok K ca B G H own σ S) (hi : S[i]? = some .un) : Ok K ca B G H own (σ.set i none) S := by
  refine ⟨by simpa using k.ln, k.gh, k.g0, k.h0, k.gn, k.ow, fun j s e => ?_⟩
  by_cases hj : j = i
  · subst hj
    rw [hi] at e; cases e; trivial
  · rw [List.getElem?_set_ne (Ne.symm hj)]; exact k.sl j s e
theorem Ok.setX {K : PySem.W.Frag} {ca : Str → Addr} {B : Bs} {G H : Hp} {own : Addr → Option Nat} {σ : L2.St} {i : Nat} {a : Addr} {d : Option Addr} {fs : List (Str × D)} (k : Ok K ca B G H own σ S) (h : fs = [] ∨ ∃ dd vs, d = some dd ∧ H dd = some (.xd vs) ∧ DenF K ca G vs fs) :
    Ok K ca B G H own (σ.set i (some (.ref a))) (S.set i (.xc a d fs)) := by
  refine ⟨by simpa using k.ln, k.gh, k.g0, k.h0, k.gn, k.ow, fun j s e => ?_⟩
  by_cases hj : j = i
  · subst hj
    have hl : j < S.length := by
      by_cases hl : j < S.length
      · exact hl
      · rw [List.getElem?_eq_none (by simpa using hl)] at e; cases e
    rw [List.getElem?_set_self hl] at e
    cases e
    exact ⟨List.getElem?_set_self (Nat.lt_of_lt_of_le hl k.ln), h⟩
  · rw [List.getElem?_set_ne (Ne.symm hj)] at e
    rw [List.getElem?_set_ne (Ne.symm hj)]
    exact k.sl j s e
/-- within a suite: the exception that is handled -/
structure CxS (X : Cx) (J : Jx) (k : Nat) : Prop where
  hot : L2H.HotC X
  room : L2H.RoomH k X.A
  tk : L2N.Takes X J.W
  nd : X.N.Nodup
theorem ss_try {cn n : Str} {i : Nat} {b₀ : Stmt} {suite : List Stmt} {np pos' : Pos} {mB : M (Out β γ ρ)} {f : List (Str × D) → M (Out β γ ρ)} (C : CxD X J k) (hs : X.stack = X.env :: X.outer) (hf : X.env.frame = some X.env.locals) (hln : X.env.kindOf n = some .local) (hgl : Gl X cn) (hgm : X.mg cn = some (.ref (J.ca cn)))
    (hem : PySem.W.exmOne X.K (.ref (J.ca cn)) (.ref (J.ca cn)) = some true) (hi : X.N[i]? = some n) (hd : (cn == ("__debug__" : Str)) = false)
    (hb : ∀ (W : WX) (pn : List (Addr × Obj)) (xe : Value → Shared → Prop), CxD (X.tr pn xe) ⟨J.ca, W, J.B, S1⟩ k → DSs (X.tr pn xe) ⟨J.ca, W, J.B, S1⟩ S body N L R mB)
    (hsu : ∀ (a : Addr) (oe : Obj) (cls : Value) (d : Option Addr) (pn : List (Addr × Obj)) (args : List (Str × D)), CxS (X.suite a ((a, oe) :: pn)) (js J) k → Zc cls d oe → (∃ vs, oe.data = .fields vs) → cls = .ref (J.ca cn) → DSs (X.suite a ((a, oe) :: pn)) (js J) (S1.set i (.xc a d args)) (b₀ :: suite) N L R (f args))
    (hN : ∀ b, (N b)[i]? = some .un) (hL : ∀ b, (L b)[i]? = some .un) :
    DS X J S (.Try body [.ExceptHandler (some (.Name cn np)) (some n) (b₀ :: suite) pos'] [] [] pos) N L R (tryM cn mB f) := by
  have hA : ∀ (a : Addr) (oe : Obj) (cls : Value) (d : Option Addr) (pn : List (Addr × Obj)), L2N.Zn cls d oe → (∃ vs, oe.data = .fields vs) → CxS (X.suite a ((a, oe) :: pn)) (js J) k := fun a oe cls d pn hz ⟨vs, hv⟩ =>
    ⟨⟨(a, oe), ⟨rfl, vs, hv, hz.2.2 vs hv⟩, List.mem_cons_self⟩, L2H.roomH_mark C.room _, takesN, C.nd⟩
  refine ps_imp (L2N.ps_try_as (Wout := J.W) hs hf C.nd hi hln ⟨hgl, hd, .inl hgm⟩ C.tk
    (tb := fun W => tS X ⟨J.ca, W, J.B, S1⟩ S N L R mB)
    (ts := fun a cls d Dn σ H => ∃ args, cls = .ref (J.ca cn) ∧ tS X (js J) (S1.set i (.xc a d args)) N L R (f args) Dn σ H)
    (fun W pn xe tk po => hb W pn xe ⟨C.calm, tk, po, C.room, C.nd⟩) (fun a oe cls d pn hz hv => ?_)) fun Dn σ H ⟨G, own, ok, fin⟩ => ?_
  · refine ⟨fun pins s σ H D I ⟨args, hc, q⟩ => ?_⟩
    exact (hsu a oe cls d pn args (hA a oe cls d pn hz hv) hz.zc hv hc).run pins s σ H D I q
  · refine ⟨G, own, ok, ?_⟩
    cases hmB : mB with
    | ok o =>
      rw [hmB] at fin
      cases o with
      | nx b => exact fin
      | rt r => exact fin
      | bk c => exact fin
      | ct c => exact fin
    | no => rw [hmB] at fin; exact fin
    | er x =>
      rw [hmB] at fin
      intro cls d σ' G' H' own' sg ok' ra
      by_cases hx : x.cls = cn
      · have fin2 : FinS X J N L R Dn G (noEr (f x.args)) := by
          unfold tryM at fin
          simp only [if_pos hx] at fin
          exact fin
        obtain ⟨hc, hd2⟩ := ra
        rw [hx] at hc
        refine ⟨true, by rw [hc]; exact hem, fun _ a hn => ⟨x.args, hc, G', own', ok'.setX hd2, ?_⟩, fun z => by cases z⟩
        have fin3 := fin2.mono sg
        cases hfa : f x.args with
        | no => rw [hfa] at fin3; exact fin3.elim
        | er y => rw [hfa] at fin3; exact fin3.elim
        | ok o =>
          rw [hfa] at fin3
          cases o with
          | nx b => exact fun σ2 G2 H2 own2 s2 k2 => fin3 _ G2 H2 own2 s2 (Ok.unset k2 (hN b))
          | rt r => exact fin3
          | bk c => exact fun σ2 G2 H2 own2 s2 k2 => fin3 _ G2 H2 own2 s2 (Ok.unset k2 (hL c))
          | ct c => exact fun σ2 G2 H2 own2 s2 k2 => fin3 _ G2 H2 own2 s2 (Ok.unset k2 (hL c))
      · unfold tryM at fin
        simp only [if_neg hx] at fin
        exact fin.elim
/-! ### within a suite -/
def fldI (a : List (Str × D)) (f : Str) : M Int := match a.lookup f with
  | some (.int i) => .ok i
  | _ => .no
def fldB (a : List (Str × D)) (f : Str) : M Bool := match a.lookup f with
  | some (.bl i) => .ok i
  | _ => .no
/-- e.f of the caught exception -/
theorem e_xf {α : Type} {enc : α → D} {m : M α} {f x : Str} {a C : Addr} {oe : Obj} {cls : Value} {d : Option Addr} {pn : List (Addr × Obj)} {args : List (Str × D)} {i : Nat} (T : XfC X.K C) (hno : PySem.W.findIn X.K (.ref C) f = some none)
    (hz : Zc cls d oe) (hf : ∃ vs, oe.data = .fields vs) (hc : cls = .ref C) (hs : S[i]? = some (.xc a d args)) (hp : PE (X.suite a ((a, oe) :: pn)) (.Name x p) (tVar i)) (hm : ∀ z, m = .ok z → args.lookup f = some (enc z)) (hne : ∀ y, m ≠ .er y)
    (hb : attributeBase (.Name x p) f X.env (eval (.Name x p) X.env) = eval (.Name x p) X.env := by rfl) :
    DE (X.suite a ((a, oe) :: pn)) J S (.Attribute (.Name x p) f pos) enc m :=
  pe_imp (pe_xf T hno hz hf hp hb) fun σ H Q ⟨G, own, ok, fin⟩ => by
    obtain ⟨h1, h2⟩ := ok.sl i _ hs
    cases m with
    | no => exact fin.elim
    | er y => exact absurd rfl (hne y)
    | ok z =>
      have hl := hm z rfl
      rcases h2 with h2 | ⟨dd, vs, h2, h3, h4⟩
      · rw [h2] at hl; cases hl
      · obtain ⟨v, e1, e2⟩ := h4.lookup hl
        exact ⟨.ref a, h1, rfl, hc, dd, vs, v, h2, h3, e1, fin v G H (Grow.refl ok.gh) e2⟩
theorem fldI_ok {args : List (Str × D)} {f : Str} : (∀ z, fldI args f = .ok z → args.lookup f = some (eI z)) ∧ ∀ y, fldI args f ≠ .er y := by
  unfold fldI
  constructor
  · intro z h
    split at h
    · cases h; assumption
    · cases h
  · intro y
    split <;> exact fun h => by cases h
theorem fldB_ok {args : List (Str × D)} {f : Str} : (∀ z, fldB args f = .ok z → args.lookup f = some (eB z)) ∧ ∀ y, fldB args f ≠ .er y := by
  unfold fldB
  constructor
  · intro z h
    split at h
    · cases h; assumption
    · cases h
  · intro y
    split <;> exact fun h => by cases h
/-- a def called there -/
theorem e_callH {α ρ : Type} {encs : α → List Sl} {enr : ρ → D} {f : Addr} {fd : FuncData} {ps : List Str} {x : Str} {code : α → M ρ} {n : M α} (C : CxS X J k) (hj : j ≤ k) (F : L2H.FnH X.prog X.w X.K X.mg X.base (L2N.CX X.prog X.w) j f fd ps (spE X.K J.ca encs enr code)) (hm : X.mg x = some (.ref f)) (hk : PySem.W.keepIn X.K (.ref f) = true) (hb : Binds X.K fd ps [])
    (h : DX X J S (e :: es) encs n) (hg : Gl X x := by rfl) (hdb : (x == ("__debug__" : Str)) = false := by decide) (he : starEach (e :: es) X.env = (false, eval e X.env) :: starEach es X.env := by rfl) (hpl : (backTo pos (starEach es X.env)).any (·.1) = false := by rfl) :
    DE X J S (.Call (.Name x p) (e :: es) [] pos) enr (mb n code) :=
  pe_imp (L2H.pe_callH F (C.room.mono hj) C.hot hg hm hk hb (fun σ => L2N.passAt C.tk σ) h hdb he hpl) fun σ H Q ⟨G, own, ok, fin⟩ => X_bind Fin.wish ok fin fun z vs G1 H1 g1 ok1 d r => by
    show spE X.K J.ca encs enr code vs H1 Q _
    refine ⟨z, G1, ok1.gh, d, ?_⟩
    cases hc : code z with
    | ok y => rw [hc] at r; show spR X.K J.ca G1 H1 (mb (code z) _) Q _; rw [hc]; exact fun v G' H' g dv => r v G' H' g dv
    | er q => rw [hc] at r; show spR X.K J.ca G1 H1 (mb (code z) _) Q _; rw [hc]; exact fun cls dd G' H' g ra => r cls dd G' H' g ra
    | no => rw [hc] at r; exact r.elim
/-- .. by its body -/
theorem fn_okH {P : Program} {w : World} {K : PySem.W.Frag} {mg : Str → Option Value} {base : Heap} {x qual : Str} {st : Stmt} {f : Addr} {fd : FuncData} {Ns ps : List Str} {k n : Nat} {ca : Str → Addr} {α β γ ρ : Type} {encA : α → List Sl} {R : ρ → RV} {Nx : α → β → List Sl} {L : α → γ → List Sl} {code : α → M (Out β γ ρ)}
    (F : Fun K x qual st f fd) (S : FnScope Ns ps (defScope st)) (hl : ∀ a, (encA a).length = ps.length) (hn : ps.length + n = Ns.length)
    (hb : ∀ (cdv : Value) (A : Around) (outer : List Env) (s : Shared) (G H : Hp) (E : XK) (a : α) (q : Addr × Obj), CxS (L2H.cxH (L2N.CX P w) P w K mg base Ns qual (defScope st) f cdv A outer s H E q) (jx ca E G H) k →
      DSs (L2H.cxH (L2N.CX P w) P w K mg base Ns qual (defScope st) f cdv A outer s H E q) (jx ca E G H) (encA a ++ List.replicate n .un) (defBody st) (Nx a) (L a) R (code a)) :
    L2H.FnH P w K mg base (L2N.CX P w) (k + 1) f fd ps (spF K ca encA fun a => fnO R (code a)) := by
  obtain ⟨oc, od, kV, doc, pm, an, cdv, ct, osl, rfl, lk, hcd⟩ := F.ex
  refine L2H.fn_ofH lk hcd S (fun vs H Q E ⟨a, G, e, d, r⟩ => by rw [d.length, hl a]) fun A outer s H vs Q E q hot hr ⟨a, G, e, d, r⟩ => ?_
  have C : CxS (L2H.cxH (L2N.CX P w) P w K mg base Ns qual (defScope st) f cdv A outer s H E q) (jx ca E G H) k :=
    ⟨⟨q, hot, List.mem_singleton.mpr rfl⟩, hr, L2N.takes_of rfl rfl rfl rfl, S.nd⟩
  refine ⟨_, hb cdv A outer s G H E a q C, G, _, ok_start e d (by rw [hl a]; omega), ?_⟩
  have r' : spR K ca G H (fnO R (code a)) Q E := r
  cases hc : code a with
  | ok o =>
    rw [hc] at r'
    cases o with
    | nx b => exact fun σ' G' H' own' sg ok' => r' .non G' H' ok'.base .non
    | rt q =>
      have r2 : spR K ca G H (.ok (R q)) Q E := r'
      show RtK _ _ (R q) Q
      cases hR : R q with
      | fr d => rw [hR] at r2; exact r2
      | ow ds => rw [hR] at r2; exact fun p vs G' H' g h1 h2 h3 h4 => r2 p vs G' H' g h1 h2 h3 h4
      | op ds d => rw [hR] at r2; exact fun t p u vs G' H' g h1 h2 h3 h4 h5 h6 => r2 t p u vs G' H' g h1 h2 h3 h4 h5 h6
    | bk c => exact r'.elim
    | ct c => exact r'.elim
  | er x =>
    rw [hc] at r'
    exact fun cls d σ' G' H' own' sg ok' ra => r' cls d G' H' ok'.base ra
  | no => rw [hc] at r'; exact r'.elim
end
end DL

namespace DL
open PySem PySem.Spec PyProof.Rows L2
variable {X : Cx} {J : Jx}

/-! ### objects under construction -/
def putD (f : Str) (d : D) : List (Str × D) → List (Str × D)
  | [] => [(f, d)]
  | (g, x) :: r => if g = f then (g, d) :: r else (g, x) :: putD f d r
theorem DenF.put {K : PySem.W.Frag} {ca : Str → Addr} {H : Hp} {f : Str} {v : V} {d : D} (h : Den K ca H v d) : ∀ {vs : List (Str × V)} {ds : List (Str × D)}, DenF K ca H vs ds → DenF K ca H (putF f v vs) (putD f d ds)
  | _, _, .nil => .cons h .nil
  | _, _, .cons (f := g) a t => by
    unfold putF putD
    by_cases e : g = f
    · rw [if_pos e, if_pos e]; exact .cons h t
    · rw [if_neg e, if_neg e]; exact .cons a (DenF.put h t)
theorem DenF.length {K : PySem.W.Frag} {ca : Str → Addr} {H : Hp} : ∀ {vs : List (Str × V)} {ds : List (Str × D)}, DenF K ca H vs ds → vs.length = ds.length
  | _, _, .nil => rfl
  | _, _, .cons _ t => congrArg (· + 1) (DenF.length t)
section
variable {α β γ δ ρ : Type} {S : List Sl} {N : β → List Sl} {L : γ → List Sl} {R : ρ → RV} {enc : α → D} {a b c e : Expr} {es : List Expr} {pos p : Pos} {k j : Nat} {rest body : List Stmt}
/-- self.f = e -/
theorem ss_sfld {m : M α} {f : α → M (Out β γ ρ)} {x fl : Str} {Cn : Str} {fs : List (Str × D)} {px p2 : Pos} {q : Addr} (i : Nat) (hs : S[i]? = some (.nw q Cn fs)) (hp : PE X (.Name x px) (tVar i)) (cl : Cls X.K (J.ca Cn)) (na : NoAttr X.K (J.ca Cn) fl) (hl : fs.length < 1000) (he : DE X J S e enc m)
    (hr : ∀ z, DSs X J (S.set i (.nw q Cn (putD fl (enc z) fs))) rest N L R (f z)) (hw : Wk S J.Sx) (hsw : swapsWith e (some (.Attribute (.Name x px) fl p2)) pos.line X.env = pure false := by rfl) :
    DSs X J S (.Assign [.Attribute (.Name x px) fl p2] e pos :: rest) N L R (mb m f) :=
  pss_imp (pss_cons (ps_fld hp he hsw) (pss_ex hr)) fun Dn σ H ⟨G, own, ok, fin⟩ =>
    E_bind (FinS.wish hw) ok ⟨fin, ok⟩ fun z v G1 H1 g1 ok1 d r => by
      obtain ⟨h1, h2, dx, vs, h3, h4⟩ := ok1.sl i _ hs
      have e1 := h4.length
      exact ⟨.ref q, h1, q, J.ca Cn, dx, vs, rfl, h3, cl, na, by rw [e1]; exact hl, z, G1, own, ok1.mutN h3 h2 (h4.put d) h1, r.1⟩
/-- self.f -/
theorem e_sfld {z : α} {x fl : Str} {Cn : Str} {fs : List (Str × D)} {px : Pos} {q : Addr} (i : Nat) (hs : S[i]? = some (.nw q Cn fs)) (hp : PE X (.Name x px) (tVar i)) (cl : Cls X.K (J.ca Cn)) (na : NoAttr X.K (J.ca Cn) fl) (hl : fs.lookup fl = some (enc z))
    (hb : attributeBase (.Name x px) fl X.env (eval (.Name x px) X.env) = eval (.Name x px) X.env := by rfl) : DE X J S (.Attribute (.Name x px) fl pos) enc (.ok z) :=
  pe_imp (pe_fld hp hb) fun σ H Q ⟨G, own, ok, fin⟩ => by
    obtain ⟨h1, h2, dx, vs, h3, h4⟩ := ok.sl i _ hs
    obtain ⟨v, e1, e2⟩ := h4.lookup hl
    exact ⟨.ref q, h1, q, J.ca Cn, dx, vs, v, rfl, h3, cl, na, e1, fin v G H (Grow.refl ok.gh) e2⟩
end
/-- what __init__ answers: the fields behind it -/
def iniO {β γ ρ : Type} (F : β → List (Str × D)) (n : M (Out β γ ρ)) : M (List (Str × D)) := match n with
  | .ok (.nx b) => .ok (F b)
  | .ok _ => .no
  | .er x => .er x
  | .no => .no
def hid (H : Hp) (p : Addr) : Hp := fun b => if b = p then none else H b
theorem hid_ne {H : Hp} {p b : Addr} (h : b ≠ p) : hid H p b = H b := if_neg h
theorem hid_same {H : Hp} {p : Addr} : hid H p p = none := if_pos rfl
/-- __init__(self, ..): at the arguments encA a -/
def spN (K : PySem.W.Frag) (ca : Str → Addr) (Cn : Str) {α : Type} (encA : α → List Sl) (code : α → M (List (Str × D))) : Sp := fun vs H Q E => ∃ (a : α) (p dx : Addr) (ws : List V) (G : Hp), vs = .ref p :: ws ∧ H p = some (.ins (ca Cn) dx []) ∧ G p = none ∧ Same G H ∧ ArgL K ca G (hid H p) ws (encA a) ∧
  match code a with
  | .ok fs => ∀ G' H' gs dy, Same G G' → Same G' H' → (∀ b, b ≠ p → H b ≠ none → H' b = H b) → (∀ b, H b ≠ none → G' b = G b) → H' p = some (.ins (ca Cn) dy gs) → DenF K ca G' gs fs → Q .non H'
  | .er x => ∀ cls d G' H', Same G G' → Same G' H' → (∀ b, b ≠ p → H b ≠ none → H' b = H b) → (∀ b, b ≠ p → H b ≠ none → G' b = G b) → Raised K ca x G' cls d H' → E cls d H'
  | .no => False
/-- nothing is said of the slots at a raise; the object at p is one's own -/
abbrev jn (ca : Str → Addr) (E : XK) (G H : Hp) (p : Addr) : Jx := ⟨ca, fun cls d _ H' => E cls d H', ⟨G, hid H p⟩, []⟩
theorem ok_startN {K : PySem.W.Frag} {ca : Str → Addr} {G H : Hp} {N : List Str} {p dx : Addr} {Cn : Str} {vs : List V} {ss : List Sl} {n : Nat} (e : Same G H) (h : ArgL K ca G (hid H p) vs ss) (hp : H p = some (.ins (ca Cn) dx [])) (hg : G p = none) (hn : 1 + ss.length + n ≤ N.length) :
    Ok K ca ⟨G, hid H p⟩ G H (fun b => if b = p then some 0 else none) (L2.start N (.ref p :: vs)) (.nw p Cn [] :: (ss ++ List.replicate n .un)) := by
  have hl := h.length
  refine ⟨by simp [L2.start]; omega, e, Same.refl _, fun b o z => ?_, fun _ _ => rfl, fun b i z => ?_, fun i s q => ?_⟩
  · have z' : hid H p b = some o := z
    unfold hid at z'
    split at z'
    · cases z'
    · exact z'
  · split at z
    · rename_i hb
      subst hb
      exact ⟨hid_same, hg, by rw [hp]; exact fun y => by cases y⟩
    · cases z
  · cases i with
    | zero =>
      cases q
      exact ⟨start_get rfl, by simp, dx, [], hp, .nil⟩
    | succ i =>
      have q' : (ss ++ List.replicate n .un)[i]? = some s := by simpa using q
      by_cases hi : i < ss.length
      · rw [List.getElem?_append_left hi] at q'
        obtain ⟨v, h1, h2⟩ := h.get (H0 := hid H p) (fun _ _ z => z) (own := fun b => if b = p then some 0 else none) q'
        rw [start_get (show (V.ref p :: vs)[i + 1]? = some v by simpa using h1)]
        exact h2 (i + 1) H
      · rw [List.getElem?_append_right (by omega), List.getElem?_replicate] at q'
        split at q'
        · cases q'; trivial
        · cases q'
section
variable {P : Program} {w : World} {K : PySem.W.Frag} {mg : Str → Option Value} {base : Heap}
theorem fn_init {x qual : Str} {params : Arguments} {bd : List Stmt} {sc : Scope} {dvs : List V} {kws : List (Str × V)} {f : Addr} {fd : FuncData} {Ns ps : List Str} {k n : Nat} {ca : Str → Addr} {Cn : Str} {α β γ ρ : Type} {encA : α → List Sl} {R : ρ → RV} {Nx : Addr → α → β → List Sl} {L : α → γ → List Sl} {code : α → M (Out β γ ρ)} {Fl : β → List (Str × D)}
    (F : FunD K x qual params bd sc dvs kws f fd) (S : FnScope Ns ps sc) (hl : ∀ a, 1 + (encA a).length = ps.length) (hn : ps.length + n = Ns.length) (hN : ∀ p a b, (Nx p a b)[0]? = some (.nw p Cn (Fl b)))
    (hb : ∀ (cdv : Value) (A : Around) (outer : List Env) (s : Shared) (G H : Hp) (E : XK) (a : α) (p : Addr), CxD (cxOf (L2N.CX P w) P w K mg base Ns qual sc f cdv A outer s H E) (jn ca E G H p) k →
      DSs (cxOf (L2N.CX P w) P w K mg base Ns qual sc f cdv A outer s H E) (jn ca E G H p) (.nw p Cn [] :: (encA a ++ List.replicate n .un)) bd (Nx p a) (L a) R (code a)) :
    FnOk P w K mg base (L2N.CX P w) (k + 1) f fd ps (spN K ca Cn encA fun a => iniO Fl (code a)) := by
  obtain ⟨oc, od, dV, kV, doc, pm, an, cdv, ct, osl, rfl, lk, hcd, _, _⟩ := F.ex
  refine fn_of lk hcd S (fun vs H Q E ⟨a, p, dx, ws, G, e, _, _, _, d, _⟩ => by rw [e, List.length_cons, d.length, ← hl a]; omega) fun A outer s H vs Q E hr ⟨a, p, dx, ws, G, e, hp, hg, sg, d, r⟩ => ?_
  subst e
  have C : CxD (cxOf (L2N.CX P w) P w K mg base Ns qual sc f cdv A outer s H E) (jn ca E G H p) k :=
    ⟨rfl, L2N.takes_of rfl rfl rfl rfl, passes_of rfl, hr, S.nd⟩
  refine ⟨_, hb cdv A outer s G H E a p C, G, _, ok_startN sg d hp hg (by have := hl a; omega), ?_⟩
  have same : ∀ {G' H' : Hp} {own' : Addr → Option Nat} {σ' : L2.St} {S' : List Sl}, Ok K ca ⟨G, hid H p⟩ G' H' own' σ' S' → (∀ b, b ≠ p → H b ≠ none → H' b = H b) ∧ (∀ b, H b ≠ none → b ≠ p → G' b = G b) := fun {G' H' own' σ' S'} k' => by
    refine ⟨fun b hbp hbn => ?_, fun b hbn hbp => ?_⟩
    · cases q : H b with
      | none => exact absurd q hbn
      | some o => rw [k'.h0 b o (by show hid H p b = _; rw [hid_ne hbp]; exact q)]
    · exact k'.gn b (by show hid H p b ≠ none; rw [hid_ne hbp]; exact hbn)
  dsimp only at r
  cases hc : code a with
  | ok o =>
    rw [hc] at r
    cases o with
    | nx b =>
      intro σ' G' H' own' sg' ok'
      obtain ⟨h1, h2, dy, vs, h3, h4⟩ := ok'.sl 0 _ (hN p a b)
      obtain ⟨e1, e2⟩ := same ok'
      refine r G' H' vs dy sg' ok'.gh e1 (fun z hz => ?_) h3 h4
      by_cases hzp : z = p
      · subst hzp
        rw [hg]; exact (ok'.ow z 0 h2).2.1
      · exact e2 z hz hzp
    | rt q => exact r.elim
    | bk c => exact r.elim
    | ct c => exact r.elim
  | er x =>
    rw [hc] at r
    intro cls d σ' G' H' own' sg' ok' ra
    obtain ⟨e1, e2⟩ := same ok'
    exact r cls d G' H' sg' ok'.gh e1 (fun z h1 h2 => e2 z h2 h1) ra
  | no => rw [hc] at r; exact r.elim
end

/-! ### an object is made: C(e, .., k = v, ..) -/
section
variable {α β γ δ ρ κ : Type} {S : List Sl} {enc : α → D} {a b c e : Expr} {es : List Expr} {pos p kpos : Pos} {k j : Nat} {kws : List Keyword}
def DK (X : Cx) (J : Jx) (S : List Sl) (kws : List Keyword) (encs : β → List Sl) (n : M β) : Prop := PK X kws (tXr X J S encs n)
theorem pk_imp {kws : List Keyword} {t t' : TA} (h : PK X kws t) (i : ∀ σ H Q, t' σ H Q → t σ H Q) : PK X kws t' := ⟨fun ps pins s σ H Q I q => h.run ps pins s σ H Q I (i σ H Q q)⟩
theorem k_nil : DK X J S [] xN (.ok ()) := pk_imp pk_nil fun σ H Q ⟨G, own, ok, fin⟩ => fin [] G H (Grow.refl ok.gh) .nil
theorem k_cons {nm : Option Str} {encs : β → List Sl} {m : M α} {n : M β} (h : DE X J S a enc m) (h2 : DK X J S kws encs n) : DK X J S (⟨nm, a, kpos⟩ :: kws) (xC enc encs) (mb m fun x => mb n fun y => .ok (x, y)) :=
  pk_imp (pk_cons h h2) fun σ H Q ⟨G, own, ok, fin⟩ => E_bind FinX.wish ok fin fun x v G1 H1 g1 ok1 d r => X_bind FinX.wish ok1 r fun y vs G2 H2 g2 ok2 d2 r2 =>
    r2 _ G2 H2 (Grow.refl ok2.gh) (.cons (d.mono g2.g) d2)
theorem e_make {f : Addr} {fd : FuncData} {ps ks : List Str} {x Cn : Str} {n : Nat} {gV : List V → List V → List V} {encA : κ → List Sl} {code : κ → M ρ} {flds : ρ → List (Str × D)} {encs : α → List Sl} {enk : β → List Sl} {ma : M α} {mk : M β} {mkA : α → β → κ}
    (C : CxD X J k) (hj : j + 1 ≤ k) (hW : ∀ cls d σ τ H, J.W cls d σ H → J.W cls d τ H) (Mm : Mk X.K (J.ca Cn) f) (F : FnOk X.prog X.w X.K X.mg X.base (L2N.CX X.prog X.w) j f fd ps (spN X.K J.ca Cn encA fun a => mb (code a) fun r => .ok (flds r))) (hm : X.mg x = some (.ref (J.ca Cn))) (hb : ∃ g, KBn X.K fd ps (n + 1) ks g gV)
    (ha : DX X J S (e :: es) encs ma) (hk : DK X J S kws enk mk) (hn : ∀ z, (encs z).length = n) (hn2 : ∀ z, (enk z).length = ks.length)
    (hA : ∀ (G H : Hp) (v : V) (vs zs : List V) (z : α) (y : β), ArgL X.K J.ca G H vs (encs z) → ArgL X.K J.ca G H zs (enk y) → ∃ ws, gV (v :: vs) zs = v :: ws ∧ ArgL X.K J.ca G H ws (encA (mkA z y)))
    (hg : Gl X x := by rfl) (hall : (backToKw pos (keywordEach kws X.env)).all (·.1.isSome) = true := by rfl) (hks : (backToKw pos (keywordEach kws X.env)).filterMap (·.1) = ks := by rfl)
    (hdb : (x == ("__debug__" : Str)) = false := by decide) (he : starEach (e :: es) X.env = (false, eval e X.env) :: starEach es X.env := by rfl)
    (hpl : ((backTo pos (starEach (e :: es) X.env)).any (·.1) || (backToKw pos (keywordEach kws X.env)).any (·.1.isNone)) = false := by rfl) :
    DE X J S (.Call (.Name x p) (e :: es) kws pos) (fun r => .obj Cn (flds r)) (mb ma fun z => mb mk fun y => code (mkA z y)) := by
  obtain ⟨g, hb⟩ := hb
  refine ⟨fun pins s σ H Q I ⟨G, own, ok, fin⟩ => ?_⟩
  refine wpAny_Call_Name_kw (ld_glob I hg hm ?_ hdb)
  have ta := X_bind (X := X) (J := J) (f := fun z => mb mk fun y => code (mkA z y)) (Fin.wish (enc := fun r => D.obj Cn (flds r)) (Q := Q)) ok fin
    (P := fun vs H1 => ∃ z G1, OkX X J G1 H1 own σ S ∧ ArgL X.K J.ca G1 H1 vs (encs z) ∧ Fin X J (fun r => D.obj Cn (flds r)) (mb mk fun y => code (mkA z y)) σ G1 H1 Q)
    fun z vs G1 H1 g1 ok1 d r => ⟨z, G1, ok1, d, r⟩
  refine PySem.W.callWith_KW (h₀ := X.base) I.ok.mod.kin Mm.kp hall (thn (ha.run pos pins s σ H _ I ta) fun us s1 ⟨vs, H1, I1, r1, z, G1, ok1, d1, fin1⟩ => ?_) hpl he
  have tk := X_bind (X := X) (J := J) (f := fun y => code (mkA z y)) (Fin.wish (enc := fun r => D.obj Cn (flds r)) (Q := Q)) ok1 fin1
    (P := fun zs H2 => ∃ y G2, OkX X J G2 H2 own σ S ∧ Grow G1 H1 G2 H2 ∧ ArgL X.K J.ca G2 H2 zs (enk y) ∧ Fin X J (fun r => D.obj Cn (flds r)) (code (mkA z y)) σ G2 H2 Q)
    fun y zs G2 H2 g2 ok2 d r => ⟨y, G2, ok2, g2, d, r⟩
  refine thn (hk.run pos pins s1 σ H1 _ I1 tk) fun ws s2 ⟨zs, H2, I2, rz, y, G2, ok2, g2, d2, fin2⟩ => ⟨I2.kIn, ?_⟩
  rw [hks]
  have dv := d1.mono g2.g g2.h
  refine run_makeN (E := fun cls d H => J.W cls d σ H) Mm F (C.room.mono hj) hb (L2N.passes_call C.tk fun cls d τ H' h => hW cls d σ τ H' h) I2 r1 rz (by rw [dv.length, hn]) (by rw [d2.length, hn2]) fun a dx h1 h2 hne => ?_
  obtain ⟨ws', e1, e2⟩ := hA G2 H2 (.ref a) vs zs z y dv d2
  have sg2 : Same G2 (upd (upd H2 dx (.own a)) a (.ins (J.ca Cn) dx [])) := fun b o q => by
    have q' := ok2.gh b o q
    rw [upd_ne (ne_of_none q' h1), upd_ne (ne_of_none q' h2)]; exact q'
  have hG : G2 a = none := Same.free ok2.gh h1
  refine ⟨mkA z y, a, dx, ws', G2, e1, upd_same, hG, sg2, e2.mono (Same.refl _) (fun b o q => by
    have n1 : b ≠ a := fun z => by rw [z, h1] at q; cases q
    rw [hid_ne n1, upd_ne n1, upd_ne fun z => by rw [z, h2] at q; cases q]; exact q), ?_⟩
  have old : ∀ b, H2 b ≠ none → b ≠ a ∧ (upd (upd H2 dx (.own a)) a (.ins (J.ca Cn) dx [])) b = H2 b := fun b hbn => by
    have n1 : b ≠ a := fun z => hbn (z ▸ h1)
    have n2 : b ≠ dx := fun z => hbn (z ▸ h2)
    exact ⟨n1, by rw [upd_ne n1, upd_ne n2]⟩
  cases hc : code (mkA z y) with
  | no => rw [hc] at fin2; exact fin2.elim
  | er q =>
    rw [hc] at fin2
    simp only [hc, mb_er]
    intro cls d G' H' s1 s2 o1 o2 ra
    refine fin2 cls d G' H' ⟨s1, fun b o q => ?_, s2, fun b hbn => ?_⟩ ra
    · obtain ⟨n1, n2⟩ := old b (by rw [q]; exact fun z => by cases z)
      rw [o1 b n1 (by rw [n2, q]; exact fun z => by cases z), n2]; exact q
    · obtain ⟨n1, n2⟩ := old b hbn
      exact o2 b n1 (by rw [n2]; exact hbn)
  | ok r =>
    rw [hc] at fin2
    simp only [hc, mb_ok]
    intro G' H' gs dy s1 s2 o1 o2 ha' hf
    have hGa : G' a = none := by rw [o2 a (by rw [upd_same]; exact fun z => by cases z)]; exact hG
    refine ⟨trivial, fin2 _ (upd G' a (.ins (J.ca Cn) dy gs)) H' ⟨s1.trans (same_upd hGa), fun b o q => ?_, fun b o q => ?_, fun b hbn => ?_⟩ (.obj upd_same (hf.mono (same_upd hGa)))⟩
    · obtain ⟨n1, n2⟩ := old b (by rw [q]; exact fun z => by cases z)
      rw [o1 b n1 (by rw [n2, q]; exact fun z => by cases z), n2]; exact q
    · by_cases hb' : b = a
      · subst hb'; rw [upd_same] at q; cases q; exact ha'
      · rw [upd_ne hb'] at q; exact s2 b o q
    · obtain ⟨n1, n2⟩ := old b hbn
      rw [upd_ne n1]; exact o2 b (by rw [n2]; exact hbn)
end
end DL

namespace DL
open PySem PySem.Spec PyProof.Rows L2
variable {X : Cx} {J : Jx}
section
variable {α β γ δ ρ : Type} {S : List Sl} {enc : α → D} {enr : ρ → D} {a b c e o : Expr} {es : List Expr} {pos p apos : Pos} {k j : Nat} {f : Addr} {fd : FuncData} {ps : List Str}
/-- len by an own __len__, as it answers -/
def lenO (n : Int) : M Int := if 0 ≤ n ∧ n < 2 ^ 63 then .ok n else .no
/-- one argument, an object's own method's receiver -/
abbrev aO (e : α → D) : α → List Sl := fun z => [.fr (e z)]
/-- len(o) by the class's own __len__ -/
theorem e_lenO {m : M α} {Cn : Str} {fs : α → List (Str × D)} {code : α → M Int} (C : CxD X J k) (hj : j + 1 ≤ k) (hm : X.mg "len" = none) (cl : Cls X.K (J.ca Cn)) (hs : PySem.W.findIn X.K (.ref (J.ca Cn)) "__len__" = some (some (.ref f))) (hf : PySem.W.isFn X.K (.ref f) = true)
    (F : FnOk X.prog X.w X.K X.mg X.base (L2N.CX X.prog X.w) j f fd ["self"] (spE X.K J.ca (xC enc xN) eI fun a => code a.1)) (hb : Binds X.K fd ["self"] []) (hd : ∀ z, enc z = .obj Cn (fs z)) (hne : ∀ z y, code z ≠ .er y)
    (h : PA X [a] (tCons (tE X J S enc m) tNil)) (hg : Gl X "len" := by rfl)
    (he : starEach (a :: []) X.env = (false, eval a X.env) :: starEach [] X.env := by rfl) (hpl : (backTo pos (starEach [] X.env)).any (·.1) = false := by rfl) :
    DE X J S (.Call (.Name "len" p) [a] [] pos) eI (mb m fun z => mb (code z) lenO) := by
  have hc : CallR X (.builtin "len") (fun xs H Q => ∃ q dx gs, xs = [.ref q] ∧ H q = some (.ins (J.ca Cn) dx gs) ∧ spE X.K J.ca (xC enc xN) eI (fun a => code a.1) [.ref q] H (fun v H' => ∃ n : Int, v = .int n ∧ (0 ≤ n ∧ n < 2 ^ 63) ∧ Q (.int n) H') fun _ _ _ => False) := by
    intro pins s σ H xs us Q I r ⟨q, dx, gs, ex, hq, sp⟩
    subst ex
    obtain rfl := Vals.ref1 r
    obtain ⟨mA, om, _⟩ := ins_get I.hok hq
    obtain ⟨od, I1, _⟩ := om.look
    obtain ⟨mF, fr⟩ := I.fr
    refine PySem.W.len_K fr I.ok.mod.kin I1 hs hf ?_
    have hl : ([Value.ref q] ++ []).length = (["self"] : List Str).length := rfl
    refine wpAny_call (codeAny_mono (F.run X.A.in1 X.stack s H ⟨[.ref q], []⟩ [.ref q] [.ref q] _ (fun _ _ _ => False) ((C.room.mono hj).in1) I.env0.in1 (hb s [.ref q] I.kIn hl) (.cons rfl .nil) sp) fun res t z => ?_)
    cases res with
    | error er => exact (pass_no (hx := C.tk) pins σ H s er t I z)
    | ok fl =>
      cases fl with
      | ret u =>
        obtain ⟨v, H', I', rv, n, ev, hn, q2⟩ := I.after z
        subst ev
        obtain ⟨tk, rfl⟩ := rv
        exact ⟨hn, .int n, H', I'.tok _, ⟨_, rfl⟩, q2⟩
      | next => exact z.elim
      | brk => exact z.elim
      | cont => exact z.elim
  refine pe_imp (pe_callB hc hg hm PySem.boot_len h (by decide) (by decide) he hpl) fun σ H Q ⟨G, own, ok, fin⟩ => E_bind Fin.wish ok fin fun z v G1 H1 g1 ok1 d r => ?_
  have d' := d
  rw [hd z] at d
  cases d with
  | obj hq hF =>
    refine ⟨_, _, _, rfl, ok1.gh _ _ hq, (z, ()), G1, ok1.gh, .cons d' .nil, ?_⟩
    show spR X.K J.ca G1 H1 (mb (code z) _) _ _
    cases hcz : code z with
    | no => rw [hcz] at r; exact r.elim
    | er y => exact absurd hcz (hne z y)
    | ok n =>
      rw [hcz] at r
      intro v G' H' g dv
      cases dv
      by_cases hn : 0 ≤ n ∧ n < 2 ^ 63
      · have r' : Fin X J eI (if 0 ≤ n ∧ n < 2 ^ 63 then M.ok n else .no) σ G1 H1 Q := r
        rw [if_pos hn] at r'
        exact ⟨n, rfl, hn, r' _ G' H' g (.int n)⟩
      · have r' : Fin X J eI (if 0 ≤ n ∧ n < 2 ^ 63 then M.ok n else .no) σ G1 H1 Q := r
        rw [if_neg hn] at r'
        exact r'.elim
/-- o.m(e, ..) -/
theorem e_meth {pl : Sem Bool} {β : Type} {m : M α} {n : M β} {Cn : Str} {ml : Str} {fs : α → List (Str × D)} {encs : β → List Sl} {code : α × β → M ρ} (C : CxD X J k) (hj : j ≤ k) (he : DE X J S o enc m) (cl : Cls X.K (J.ca Cn)) (hm : Meth X.K (J.ca Cn) ml f)
    (F : FnOk X.prog X.w X.K X.mg X.base (L2N.CX X.prog X.w) j f fd ps (spE X.K J.ca (xC enc encs) enr code)) (hb : Binds X.K fd ps []) (hd : ∀ z, enc z = .obj Cn (fs z) ∧ (fs z).lookup ml = none) (ha : DX X J S (e :: es) encs n)
    (hnl : ∀ {vs : List (Str × V)} {ds : List (Str × D)} {H : Hp}, DenF X.K J.ca H vs ds → ds.lookup ml = none → vs.lookup ml = none)
    (hst : starEach (e :: es) X.env = (false, eval e X.env) :: starEach es X.env := by rfl) (hpl : (backTo pos (starEach es X.env)).any (·.1) = false := by rfl)
    (ht : eval (.Call (.Attribute o ml apos) (e :: es) [] pos) X.env = (do
      let ov ← eval o X.env
      standAt apos.atName
      let (g, first) ← holding [ov] (getMethod ov ml pl)
      callWith pos g first (backTo pos (starEach (e :: es) X.env)) (backToKw pos (keywordEach [] X.env))) := by rfl) :
    DE X J S (.Call (.Attribute o ml apos) (e :: es) [] pos) enr (mb m fun z => mb n fun y => code (z, y)) := by
  refine ⟨fun pins s σ H Q I ⟨G, own, ok, fin⟩ => ?_⟩
  have t1 := E_bind (X := X) (J := J) (enc := enc) (f := fun z => mb n fun y => code (z, y)) (Fin.wish (enc := enr) (Q := Q)) ok fin
    (P := fun v H1 => ∃ z G1, OkX X J G1 H1 own σ S ∧ Den X.K J.ca G1 v (enc z) ∧ Fin X J enr (mb n fun y => code (z, y)) σ G1 H1 Q)
    fun z v G1 H1 g1 ok1 d r => ⟨z, G1, ok1, d, r⟩
  refine PySem.W.methodCall_KW (pl := pl) (thn (he.run pins s σ H _ I t1) fun u s1 ⟨x, H1, I1, rx, z, G1, ok1, d, r⟩ => ?_) ht
  have d' := d
  rw [(hd z).1] at d
  cases d with
  | obj hq hF =>
    obtain rfl : u = _ := rx
    refine getmeth_ok I1 (ok1.gh _ _ hq) cl hm (hnl hF (hd z).2) ?_
    have t2 := X_bind (X := X) (J := J) (f := fun y => code (z, y)) (Fin.wish (enc := enr) (Q := Q)) ok1 r
      (P := fun vs H2 => ∃ y G2, OkX X J G2 H2 own σ S ∧ Grow G1 H1 G2 H2 ∧ ArgL X.K J.ca G2 H2 vs (encs y) ∧ Fin X J enr (code (z, y)) σ G2 H2 Q)
      fun y vs G2 H2 g2 ok2 d r => ⟨y, G2, ok2, g2, d, r⟩
    refine PySem.W.callWith_K (first := [.ref _]) (h₀ := X.base) I.ok.mod.kin hm.kp (thn (ha.run pos pins s1 σ H1 _ I1 t2) fun us s2 ⟨vs, H2, I2, rv, y, G2, ok2, g2, d2, r2⟩ => ⟨I2.kIn, ?_⟩) hst hpl
    refine run_fnSD (us := .ref _ :: us) (vs := .ref _ :: vs) (E := fun σ => WE J.W σ) (F.mono hj) C.room hb .nil (L2N.passAt C.tk σ) I2 (.cons rfl rv) ?_
    rw [List.append_nil]
    refine ⟨(z, y), G2, ok2.gh, .cons (d'.mono g2.g) d2, ?_⟩
    show spR X.K J.ca G2 H2 (mb (code (z, y)) _) _ _
    cases hcz : code (z, y) with
    | no => rw [hcz] at r2; exact r2.elim
    | er q => rw [hcz] at r2; exact fun cls dd G' H' g ra => r2 cls dd G' H' g ra
    | ok n => rw [hcz] at r2; exact fun v G' H' g dv => r2 v G' H' g dv
/-- o.m() -/
theorem e_meth0 {pl : Sem Bool} {m : M α} {Cn : Str} {ml : Str} {fs : α → List (Str × D)} {code : α → M ρ} (C : CxD X J k) (hj : j ≤ k) (he : DE X J S o enc m) (cl : Cls X.K (J.ca Cn)) (hm : Meth X.K (J.ca Cn) ml f)
    (F : FnOk X.prog X.w X.K X.mg X.base (L2N.CX X.prog X.w) j f fd ps (spE X.K J.ca (xC enc xN) enr fun a => code a.1)) (hb : Binds X.K fd ps []) (hd : ∀ z, enc z = .obj Cn (fs z) ∧ (fs z).lookup ml = none)
    (hnl : ∀ {vs : List (Str × V)} {ds : List (Str × D)} {H : Hp}, DenF X.K J.ca H vs ds → ds.lookup ml = none → vs.lookup ml = none)
    (ht : eval (.Call (.Attribute o ml apos) [] [] pos) X.env = (do
      let ov ← eval o X.env
      standAt apos.atName
      let (g, first) ← holding [ov] (getMethod ov ml pl)
      callWith pos g first (backTo pos (starEach [] X.env)) (backToKw pos (keywordEach [] X.env))) := by rfl) :
    DE X J S (.Call (.Attribute o ml apos) [] [] pos) enr (mb m code) := by
  refine ⟨fun pins s σ H Q I ⟨G, own, ok, fin⟩ => ?_⟩
  have t1 := E_bind (X := X) (J := J) (enc := enc) (f := code) (Fin.wish (enc := enr) (Q := Q)) ok fin
    (P := fun v H1 => ∃ z G1, OkX X J G1 H1 own σ S ∧ Den X.K J.ca G1 v (enc z) ∧ Fin X J enr (code z) σ G1 H1 Q)
    fun z v G1 H1 g1 ok1 d r => ⟨z, G1, ok1, d, r⟩
  refine PySem.W.methodCall_KW (pl := pl) (thn (he.run pins s σ H _ I t1) fun u s1 ⟨x, H1, I1, rx, z, G1, ok1, d, r⟩ => ?_) ht
  have d' := d
  rw [(hd z).1] at d
  cases d with
  | obj hq hF =>
    obtain rfl : u = _ := rx
    refine getmeth_ok I1 (ok1.gh _ _ hq) cl hm (hnl hF (hd z).2) ?_
    refine PySem.W.callWith_K0 (first := [.ref _]) I1.kIn hm.kp ?_
    refine run_fnSD (us := [.ref _]) (vs := [.ref _]) (E := fun σ => WE J.W σ) (F.mono hj) C.room hb .nil (L2N.passAt C.tk σ) I1 (.cons rfl .nil) ?_
    rw [List.append_nil]
    refine ⟨(z, ()), G1, ok1.gh, .cons d' .nil, ?_⟩
    show spR X.K J.ca G1 H1 (mb (code z) _) _ _
    cases hcz : code z with
    | no => rw [hcz] at r; exact r.elim
    | er q => rw [hcz] at r; exact fun cls dd G' H' g ra => r cls dd G' H' g ra
    | ok n => rw [hcz] at r; exact fun v G' H' g dv => r v G' H' g dv
theorem denF_none {K : PySem.W.Frag} {ca : Str → Addr} {H : Hp} {ml : Str} : ∀ {vs : List (Str × V)} {ds : List (Str × D)}, DenF K ca H vs ds → ds.lookup ml = none → vs.lookup ml = none
  | _, _, .nil, _ => rfl
  | _, _, .cons (f := g) h t, e => by
    simp only [List.lookup] at e ⊢
    cases q : (ml == g) with
    | true => rw [q] at e; cases e
    | false => rw [q] at e; exact denF_none t e
end
/-- what isinstance asks of a class of one's own -/
structure IsC (K : PySem.W.Frag) (C : Addr) : Prop where
  cl : Cls K C
  cc : PySem.W.findIn K (.ref C) "__class__" = some (some (.builtin "object.__class__"))
  sp : PySem.W.specialIn K (.builtin "object.__class__") "__get__" = some (some (.builtin "getset_descriptor.__get__"))
  tk : PySem.W.takesIn K (.builtin "object.__class__") = some true
  mr : PySem.W.mroIn K C (.type "object") = some true
theorem ty_obj {α : Type} {enc : α → D} {Cn : Str} {fs : α → List (Str × D)} {u : Value} {r : Bool} (I : IsC X.K (J.ca Cn)) (hd : ∀ z, enc z = .obj Cn (fs z)) (h : PySem.W.kitOne X.K (.ref (J.ca Cn)) u = some r) :
    ∀ (z : α) v G H own, Same G H → DenB X J G H own v (enc z) → ∃ t', TyX X.K H v t' ∧ PySem.W.kitOne X.K t' u = some ((fun _ => r) z) :=
  fun z v G H own sg d => by
    have d' := d.den (fun ds => by rw [hd z]; exact fun q => by cases q)
    rw [hd z] at d'
    cases d' with
    | obj hq hF => exact ⟨_, .base (.ins (sg _ _ hq) I.cl I.cc I.sp I.tk I.mr), h⟩
end DL

namespace DL
open PySem PySem.Spec PyProof.Rows L2
variable {X : Cx} {J : Jx}
section
variable {α β β' γ δ ρ : Type} {S S' : List Sl} {N : β → List Sl} {N' : β' → List Sl} {L : γ → List Sl} {R : ρ → RV} {enc : α → D} {a b c e : Expr} {es : List Expr} {pos p : Pos} {k j : Nat} {rest body : List Stmt}
/-! ### the generator's helpers -/
theorem ss_eq {n n' : M (Out β γ ρ)} (h : DSs X J S body N L R n) (e : n = n') : DSs X J S body N L R n' := e ▸ h
theorem ss_no : DSs X J S body N L R .no := ⟨fun pins s σ H D I ⟨G, own, ok, fin⟩ => fin.elim⟩
theorem s1_no {st : Stmt} : DS X J S st N L R .no := ⟨fun pins s σ H D I ⟨G, own, ok, fin⟩ => fin.elim⟩
theorem wk_n {S : List Sl} : Wk S [] := Wk.nil
theorem wk_u {s : Sl} (h : Wk S S') : Wk (s :: S) (.un :: S') := ⟨Nat.succ_le_succ h.1, fun i t e => by
  cases i with
  | zero => cases e; exact .inl rfl
  | succ i => exact (h.2 i t (by simpa using e)).imp id fun q => by simpa using q⟩
theorem wk_e {s : Sl} (h : Wk S S') : Wk (s :: S) (s :: S') := ⟨Nat.succ_le_succ h.1, fun i t e => by
  cases i with
  | zero => exact .inr e
  | succ i => exact (h.2 i t (by simpa using e)).imp id fun q => by simpa using q⟩
theorem e_bl {k : Bool} {j : Nat} : DE X J S (.Constant (.bool k) j pos) eB (.ok k) := pe_imp pe_bl fun σ H Q ⟨G, own, ok, fin⟩ => fin _ G H (Grow.refl ok.gh) (.bl k)
theorem e_str {k : Str} {j : Nat} : DE X J S (.Constant (.str k) j pos) eS (.ok k) := pe_imp pe_str fun σ H Q ⟨G, own, ok, fin⟩ => fin _ G H (Grow.refl ok.gh) (.str k)
/-- pure parts -/
theorem w_andP {m n : M Bool} {q : Bool} (h : DT X J S a m) (h2 : DW X J S (.BoolOp .And (b :: es) pos) n) (hn : n = .ok q) : DW X J S (.BoolOp .And (a :: b :: es) pos) (mb m fun x => .ok (x && q)) := by
  have z := w_and h h2
  subst hn
  rwa [show (fun x : Bool => if x = true then M.ok q else .ok false) = fun x => .ok (x && q) by funext x; cases x <;> rfl] at z
theorem w_orP {m n : M Bool} {q : Bool} (h : DT X J S a m) (h2 : DW X J S (.BoolOp .Or (b :: es) pos) n) (hn : n = .ok q) : DW X J S (.BoolOp .Or (a :: b :: es) pos) (mb m fun x => .ok (x || q)) := by
  have z := w_or h h2
  subst hn
  rwa [show (fun x : Bool => if x = true then M.ok true else .ok q) = fun x => .ok (x || q) by funext x; cases x <;> rfl] at z
theorem e_andP {m n : M Bool} {q : Bool} (h : DE X J S a eB m) (h2 : DE X J S (.BoolOp .And (b :: es) pos) eB n) (hn : n = .ok q) : DE X J S (.BoolOp .And (a :: b :: es) pos) eB (mb m fun x => .ok (x && q)) := by
  have z := e_and h h2
  subst hn
  rwa [show (fun x : Bool => if x = true then M.ok q else .ok false) = fun x => .ok (x && q) by funext x; cases x <;> rfl] at z
theorem e_orP {m n : M Bool} {q : Bool} (h : DE X J S a eB m) (h2 : DE X J S (.BoolOp .Or (b :: es) pos) eB n) (hn : n = .ok q) : DE X J S (.BoolOp .Or (a :: b :: es) pos) eB (mb m fun x => .ok (x || q)) := by
  have z := e_or h h2
  subst hn
  rwa [show (fun x : Bool => if x = true then M.ok true else .ok q) = fun x => .ok (x || q) by funext x; cases x <;> rfl] at z
theorem e_ifP {mc : M Bool} {m n : M α} {x y : α} (hc : DT X J S c mc) (ha : DE X J S a enc m) (hb : DE X J S b enc n) (h1 : m = .ok x) (h2 : n = .ok y) : DE X J S (.IfExp c a b pos) enc (mb mc fun k => .ok (if k = true then x else y)) := by
  have z := e_ifE (pos := pos) hc ha hb
  subst h1 h2
  rwa [show (fun k : Bool => if k = true then M.ok x else .ok y) = fun k => .ok (if k = true then x else y) by funext k; cases k <;> rfl] at z
/-- both branches only store: the slots are joined -/
theorem ss_ifP {c : Expr} {A Bd : List Stmt} {mc : M Bool} {ma mb' : M (Out β γ ρ)} {x y : β} {f : β → M (Out β' γ ρ)} (N : β → List Sl) (hc : DT X J S c mc) (ha : DSs X J S A N L R ma) (hb : DSs X J S Bd N L R mb') (h1 : ma = .ok (.nx x)) (h2 : mb' = .ok (.nx y)) (hr : ∀ b, DSs X J (N b) rest N' L R (f b)) (hw : Wk S J.Sx) :
    DSs X J S (.If c A Bd pos :: rest) N' L R (mb mc fun k => f (if k = true then x else y)) := by
  have z := ss_if (pos := pos) hc ha hb hr hw
  subst h1 h2
  rwa [show (fun k : Bool => sq (if k = true then (M.ok (.nx x) : M (Out β γ ρ)) else .ok (.nx y)) f) = fun k => f (if k = true then x else y) by funext k; cases k <;> rfl] at z
theorem c_isF (hn : ∀ x, enc x ≠ .non) : CmpD X J .Is enc eU fun (_ : α) (_ : Unit) => false := ⟨_, op_isN, fun x y v u G H own Q _ d1 d2 q => by
  have hu : u = .non := by
    rcases d2 with d | ⟨_, _, _, _, h, _⟩
    · cases d; rfl
    · cases h
  refine ⟨hu, ?_⟩
  rw [non_of d1, show isNon (enc x) = false by
    have h := hn x
    cases q : enc x <;> first | rfl | exact absurd q h]
  exact q⟩
/-- a tuple of like items -/
theorem e_tupH {encs : β → List D} {n : M β} {g : β → List α} {kk : Nat} (h : DA X J S es encs n) (hg : ∀ z, encs z = (g z).map enc) (hl : ∀ z, (g z).length ≤ sizeLine) : DE X J S (.Tuple es kk pos) (eT enc) (mb n fun z => .ok (g z)) :=
  pe_imp (pe_tup h) fun σ H Q ⟨G, own, ok, fin⟩ => A_bind Fin.wish ok fin fun z vs G1 H1 g1 ok1 d r => by
    rw [hg z] at d
    have e := d.length
    rw [List.length_map] at e
    exact ⟨by rw [e]; exact hl z, fun q hq => r _ _ _ (Grow.alloc ok1.gh hq) (.tup (.of upd_same) (d.mono (same_upd (Same.free ok1.gh hq))))⟩
theorem small_line {n : Nat} (h : n ≤ 1000) : n ≤ sizeLine := Nat.le_trans h (by decide)
/-- the try, then the rest -/
theorem ss_tryC {m : M (Out β γ ρ)} {f : β → M (Out β' γ ρ)} {st : Stmt} (h : DS X J S st N L R m) (hr : ∀ b, DSs X J (N b) rest N' L R (f b)) : DSs X J S (st :: rest) N' L R (sq m f) := ss_cons h hr
end

/-! ### standings -/
structure BV where
  strengths : List Int
  lengths : List Int
  ring : Bool
  deriving DecidableEq
def fB (b : BV) : List (Str × D) := [("strengths", eT eI b.strengths), ("lengths", eT eI b.lengths), ("ring", eB b.ring)]
abbrev eBeads : BV → D := fun b => .obj "Beads" (fB b)
theorem fB_s (b : BV) : eBeads b = .obj "Beads" (fB b) ∧ (fB b).lookup ("strengths" : Str) = some (eT eI b.strengths) := ⟨rfl, by rfl⟩
theorem fB_l (b : BV) : eBeads b = .obj "Beads" (fB b) ∧ (fB b).lookup ("lengths" : Str) = some (eT eI b.lengths) := ⟨rfl, by rfl⟩
theorem fB_r (b : BV) : eBeads b = .obj "Beads" (fB b) ∧ (fB b).lookup ("ring" : Str) = some (eB b.ring) := ⟨rfl, by rfl⟩
theorem fB_no {f : Str} (h : (fB ⟨[], [], true⟩).lookup f = none) (b : BV) : eBeads b = .obj "Beads" (fB b) ∧ (fB b).lookup f = none := by
  refine ⟨rfl, ?_⟩
  simp only [fB, List.lookup] at h ⊢
  revert h
  cases (f == ("strengths" : Str)) <;> cases (f == ("lengths" : Str)) <;> cases (f == ("ring" : Str)) <;> simp
end DL

namespace DL
open PySem PySem.Spec PyProof.Rows L2
variable {X : Cx} {J : Jx}
section
variable {α β β' γ δ ρ : Type} {S S' : List Sl} {N : β → List Sl} {N' : β' → List Sl} {L : γ → List Sl} {R : ρ → RV} {enc : α → D} {enb : β → D} {a b c e : Expr} {es : List Expr} {pos p : Pos} {k j : Nat} {rest body : List Stmt}
/-! ### displays of a written length, unlike items -/
/-- a list, frozen at once -/
theorem e_lstG {encs : β → List D} {n : M β} {g : β → α} (h : DA X J S es encs n) (hg : ∀ z, enc (g z) = .lst (encs z)) (hl : ∀ z, (encs z).length ≤ sizeLine) : DE X J S (.List es pos) enc (mb n fun z => .ok (g z)) :=
  pe_imp (pe_lst h) fun σ H Q ⟨G, own, ok, fin⟩ => A_bind Fin.wish ok fin fun z vs G1 H1 g1 ok1 d r => by
    refine ⟨by rw [d.length]; exact hl z, fun q hq => r _ _ _ (Grow.alloc ok1.gh hq) ?_⟩
    rw [hg z]
    exact .lst upd_same (d.mono (same_upd (Same.free ok1.gh hq)))
theorem e_tupG {encs : β → List D} {n : M β} {g : β → α} {kk : Nat} (h : DA X J S es encs n) (hg : ∀ z, enc (g z) = .tup (encs z)) (hl : ∀ z, (encs z).length ≤ sizeLine) : DE X J S (.Tuple es kk pos) enc (mb n fun z => .ok (g z)) :=
  pe_imp (pe_tup h) fun σ H Q ⟨G, own, ok, fin⟩ => A_bind Fin.wish ok fin fun z vs G1 H1 g1 ok1 d r => by
    refine ⟨by rw [d.length]; exact hl z, fun q hq => r _ _ _ (Grow.alloc ok1.gh hq) ?_⟩
    rw [hg z]
    exact .tup (.of upd_same) (d.mono (same_upd (Same.free ok1.gh hq)))
/-- an item of a list of a written length, at a written place -/
theorem e_ixH {m : M α} {g : α → β} {ds : α → List D} (jj : Nat) {kk : Nat} {pk : Pos} (ha : DE X J S a enc m) (hd : ∀ x, enc x = .lst (ds x) ∧ (ds x)[jj]? = some (enb (g x))) : DE X J S (.Subscript a (.Constant (.int (jj : Int)) kk pk) pos) enb (mb m fun x => .ok (g x)) :=
  pe_imp (pe_ix ix_list ha pe_int (by intro _ _; rfl)) fun σ H Q ⟨G, own, ok, fin⟩ => E_bind Fin.wish ok fin fun x v G1 H1 g1 ok1 d r => by
    rw [(hd x).1] at d
    obtain ⟨p, vs, rfl, h1, h2⟩ := Den.lst' (X := X) d
    obtain ⟨w, e1, e2⟩ := h2.get (hd x).2
    exact ⟨p, vs, jj, w, rfl, rfl, SqL.of (ok1.gh _ _ h1), atI_nat e1, r w G1 H1 (Grow.refl ok1.gh) e2⟩
end
/-! ### named kinds of written lengths -/
section
variable {α β γ δ : Type}
def eP2 (e : α → D) (f : β → D) : α × β → D := fun p => .tup [e p.1, f p.2]
def eP3 (e : α → D) (f : β → D) (g : γ → D) : α × β × γ → D := fun p => .tup [e p.1, f p.2.1, g p.2.2]
def eP4 (e : α → D) (f : β → D) (g : γ → D) (h : δ → D) : α × β × γ × δ → D := fun p => .tup [e p.1, f p.2.1, g p.2.2.1, h p.2.2.2]
def eH2 (e : α → D) (f : β → D) : α × β → D := fun p => .lst [e p.1, f p.2]
def eH3 (e : α → D) (f : β → D) (g : γ → D) : α × β × γ → D := fun p => .lst [e p.1, f p.2.1, g p.2.2]
def eH4 (e : α → D) (f : β → D) (g : γ → D) (h : δ → D) : α × β × γ × δ → D := fun p => .lst [e p.1, f p.2.1, g p.2.2.1, h p.2.2.2]
end
section
variable {α β γ δ : Type} {S : List Sl} {enc : α → D} {enb : β → D} {a b c e : Expr} {es : List Expr} {pos p : Pos} {k j : Nat}
/-! ### coercions -/
theorem e_conv {m : M α} (f : α → β) (h : DE X J S a enc m) (hf : ∀ x, enc x = enb (f x)) : DE X J S a enb (mb m fun x => .ok (f x)) := e_enc h (by
  cases m with
  | ok y => exact ⟨fun z hz => by cases hz; exact ⟨y, rfl, hf y⟩, fun x hx => by cases hx⟩
  | er x => exact ⟨fun z hz => (by cases hz), fun y hy => (by cases hy; rfl)⟩
  | no => exact ⟨fun z hz => (by cases hz), fun y hy => (by cases hy)⟩)
theorem e_some {m : M α} (h : DE X J S a enc m) : DE X J S a (eO enc) (mb m fun x => .ok (some x)) := e_conv some h fun _ => rfl
theorem e_none {m : M Unit} (h : DE X J S a eU m) : DE X J S a (eO enc) (mb m fun _ => .ok none) := e_conv (fun _ => none) h fun _ => rfl
theorem e_pl2 {m : M (α × α)} (h : DE X J S a (eP2 enc enc) m) : DE X J S a (eT enc) (mb m fun x => .ok [x.1, x.2]) := e_conv (fun x => [x.1, x.2]) h fun _ => rfl
/-! ### optional ints -/
def vO : Option Int → V
  | none => .non
  | some i => .int i
theorem DenB.oint {G H : Hp} {own : Addr → Option Nat} {v : V} {i : Option Int} (d : DenB X J G H own v (eO eI i)) : v = vO i := by
  rcases d with d | ⟨_, _, _, _, h, _⟩
  · cases i <;> cases d <;> rfl
  · cases i <;> cases h
theorem dec_oint (x y : Option Int) : decide (vO x = vO y) = decide (x = y) := by
  cases x <;> cases y <;> simp [vO]
theorem c_eqO : CmpD X J .Eq (eO eI) (eO eI) fun i j => decide (i = j) := ⟨_, op_eq, fun x y v u G H own Q _ d1 d2 q => by
  rw [d1.oint, d2.oint]
  refine ⟨?_, ?_⟩
  · cases x <;> cases y <;> rfl
  · rwa [dec_oint]⟩
theorem c_neO : CmpD X J .NotEq (eO eI) (eO eI) fun i j => !decide (i = j) := ⟨_, op_ne, fun x y v u G H own Q _ d1 d2 q => by
  rw [d1.oint, d2.oint]
  refine ⟨?_, ?_⟩
  · cases x <;> cases y <;> rfl
  · rwa [dec_oint]⟩
theorem ty_oint {T : String} {r r0 : Bool} (h : kitB "int" T = some r) (h0 : kitB "NoneType" T = some r0) : ∀ (z : Option Int) v G H own, Same G H → DenB X J G H own v (eO eI z) → ∃ t', TyX X.K H v t' ∧ PySem.W.kitOne X.K t' (.type T) = some ((fun z => if z.isSome = true then r else r0) z) :=
  fun z v G H own sg d => by
    rw [d.oint]
    cases z with
    | none => exact ⟨_, .base .non, kit_ty h0⟩
    | some i => exact ⟨_, .base (.int i), kit_ty h⟩
theorem pd_P2 {pd : α → PyData} {n : Nat} {pe : β → PyData} {m : Nat} (h : PdE enc pd n) (h' : PdE enb pe m) : PdE (eP2 enc enb) (fun p => .tuple [pd p.1, pe p.2]) (max n m + 1) := by
  refine ⟨fun sg d => ?_, fun x => ?_, fun x => ?_, fun x y => ?_⟩
  · cases d with
    | tup q t =>
      cases t with
      | cons t1 t =>
        cases t with
        | cons t2 t => cases t; exact .tup (same_seqT sg q) (.cons (h.dp sg t1) (.cons (h'.dp sg t2) .nil))
  · show (PyData.canLayAll0 [pd x.1, pe x.2]) = true
    rw [PyData.canLayAll0, PyData.canLayAll0, h.lay, h'.lay]; rfl
  · simp only [PyData.depth, PyData.depthAll]
    have h1 := h.dep x.1
    have h2 := h'.dep x.2
    omega
  · rw [PyData.eqv, PyData.eqvAll, PyData.eqvAll, PyData.eqvAll, Bool.and_true, Bool.and_eq_true, h.eq, h'.eq]
    exact (Prod.ext_iff).symm
theorem pd_H2 {pd : α → PyData} {n : Nat} {pe : β → PyData} {m : Nat} (h : PdE enc pd n) (h' : PdE enb pe m) : PdE (eH2 enc enb) (fun p => .list [pd p.1, pe p.2]) (max n m + 1) := by
  refine ⟨fun sg d => ?_, fun x => ?_, fun x => ?_, fun x y => ?_⟩
  · cases d with
    | lst q t =>
      cases t with
      | cons t1 t =>
        cases t with
        | cons t2 t => cases t; exact .lst (SqL.of (sg _ _ q)) (.cons (h.dp sg t1) (.cons (h'.dp sg t2) .nil))
  · show (PyData.canLayAll0 [pd x.1, pe x.2]) = true
    rw [PyData.canLayAll0, PyData.canLayAll0, h.lay, h'.lay]; rfl
  · simp only [PyData.depth, PyData.depthAll]
    have h1 := h.dep x.1
    have h2 := h'.dep x.2
    omega
  · rw [PyData.eqv, PyData.eqvAll, PyData.eqvAll, PyData.eqvAll, Bool.and_true, Bool.and_eq_true, h.eq, h'.eq]
    exact (Prod.ext_iff).symm
end
/-! ### the law's end -/
def spLaw (K : PySem.W.Frag) : Sp := fun vs H Q _ => ∃ (a : Addr) (ns : List Int), vs = [.ref a] ∧ SqL K H a (ns.map V.int) ∧ ns.length ≤ 63 ∧ ∀ H', Q (.bl true) H'
theorem law_end {P : Program} {w : World} {K : PySem.W.Frag} {mg : Str → Option Value} {base : Heap} {CX : CXT} {k : Nat} {f : Addr} {fd : FuncData} {ps : List Str} {ca : Str → Addr} {g : List Int → M Bool}
    (F : FnOk P w K mg base CX k f fd ps (spE K ca (xC eScr xN) eB fun a => g a.1)) (h : ∀ ns : List Int, ns.length ≤ 63 → g ns = .ok true) : FnOk P w K mg base CX k f fd ps (spLaw K) :=
  F.imp fun vs H Q E ⟨a, ns, e, hs, hl, q⟩ => by
    subst e
    refine ⟨(ns, ()), H, Same.refl _, .cons (.scr hs (DenL.of_ints ns)) .nil, ?_⟩
    show spR K ca H H (mb (g ns) _) Q E
    rw [h ns hl]
    exact fun v G' H' _ d => by cases d; exact q H'
end DL

namespace DL
open PySem PySem.Spec PyProof.Rows L2
variable {X : Cx} {J : Jx}
section
variable {α β β' γ δ ρ : Type} {S S' : List Sl} {N : β → List Sl} {N' : β' → List Sl} {L : γ → List Sl} {R : ρ → RV} {enc : α → D} {enb : β → D} {a b c e : Expr} {es : List Expr} {pos p : Pos} {k j : Nat} {rest body : List Stmt}
/-! ### tests whose answer is known -/
theorem ss_ifLastF {c : Expr} {a b : List Stmt} {mb' : M (Out β γ ρ)} (hc : DT X J S c (.ok false)) (hb : DSs X J S b N L R mb') (hw : Wk S J.Sx) : DSs X J S [.If c a b pos] N L R mb' := ss_ifL (pos := pos) hc ss_no hb hw
theorem ss_ifLastT {c : Expr} {a b : List Stmt} {ma : M (Out β γ ρ)} (hc : DT X J S c (.ok true)) (ha : DSs X J S a N L R ma) (hw : Wk S J.Sx) : DSs X J S [.If c a b pos] N L R ma := ss_ifL (pos := pos) hc ha ss_no hw
theorem ss_ifJF {c : Expr} {a b : List Stmt} {mb' : M (Out β γ ρ)} {f : β → M (Out β' γ ρ)} (hc : DT X J S c (.ok false)) (hb : DSs X J S b N L R mb') (hr : ∀ b, DSs X J (N b) rest N' L R (f b)) (hw : Wk S J.Sx) : DSs X J S (.If c a b pos :: rest) N' L R (sq mb' f) := ss_if (pos := pos) hc ss_no hb hr hw
theorem ss_ifJT {c : Expr} {a b : List Stmt} {ma : M (Out β γ ρ)} {f : β → M (Out β' γ ρ)} (hc : DT X J S c (.ok true)) (ha : DSs X J S a N L R ma) (hr : ∀ b, DSs X J (N b) rest N' L R (f b)) (hw : Wk S J.Sx) : DSs X J S (.If c a b pos :: rest) N' L R (sq ma f) := ss_if (pos := pos) hc ha ss_no hr hw
theorem c_notF (hn : ∀ x, enc x ≠ .non) : CmpD X J .IsNot enc eU fun (_ : α) (_ : Unit) => true := ⟨_, op_notN, fun x y v u G H own Q _ d1 d2 q => by
  have hu : u = .non := by
    rcases d2 with d | ⟨_, _, _, _, h, _⟩
    · cases d; rfl
    · cases h
  refine ⟨hu, ?_⟩
  rw [non_of d1, show isNon (enc x) = false by
    have h := hn x
    cases q : enc x <;> first | rfl | exact absurd q h]
  exact q⟩
end
/-! ### the codes, made plain -/
theorem mbk {α β : Type} (x : α) (f : α → M β) : mb (.ok x) f = f x := Eq.trans (mb_ok x f) (Eq.symm (Eq.refl (f x)))
theorem mba {α β γ : Type} (m : M α) (f : α → M β) (g : β → M γ) : mb (mb m f) g = mb m fun x => mb (f x) g := mb_assoc m f g
theorem sqk {β β' γ ρ : Type} (b : β) (f : β → M (Out β' γ ρ)) : sq (.ok (.nx b)) f = f b := Eq.trans (sq_nx b f) (Eq.symm (Eq.refl (f b)))
theorem sqa {α β β' γ ρ : Type} (m : M α) (g : α → M (Out β γ ρ)) (f : β → M (Out β' γ ρ)) : sq (mb m g) f = mb m fun x => sq (g x) f := sq_mb m g f
/-! ### defs -/
theorem fnV_er' {β γ ρ : Type} {d : M ρ} (hd : ∀ y, d ≠ .er y) {n : M (Out β γ ρ)} {y : Ex} (h : fnV d n = .er y) : n = .er y := by
  cases n with
  | ok o =>
    cases o with
    | nx b => exact absurd h (hd y)
    | rt r => cases h
    | bk c => cases h
    | ct c => cases h
  | er x => cases h; rfl
  | no => cases h
theorem fn_EH {α β γ ρ : Type} {enr : ρ → D} {k : Nat} {f : Addr} {fd : FuncData} {ps : List Str} {encs : α → List Sl} {P : Program} {w : World} {K : PySem.W.Frag} {mg : Str → Option Value} {base : Heap} {ca : Str → Addr} {code : α → M (Out β γ ρ)} {d : M ρ} (h : L2H.FnH P w K mg base (L2N.CX P w) k f fd ps (spF K ca encs fun a => fnO (fun r => .fr (enr r)) (code a)))
    (hd : d = .no ∨ ∃ r, d = .ok r ∧ enr r = .non) : L2H.FnH P w K mg base (L2N.CX P w) k f fd ps (spE K ca encs enr fun a => fnV d (code a)) :=
  have i := sp_imp (K := K) (ca := ca) (encA := encs) (c1 := fun a => fnO (fun r => .fr (enr r)) (code a)) (c2 := fun a => mb (fnV d (code a)) fun r => .ok (.fr (enr r))) fun a => fnO_fnV (R := fun r => RV.fr (enr r)) (n := code a) (by
    rcases hd with h | ⟨r, h1, h2⟩
    · exact .inl h
    · exact .inr ⟨r, h1, by rw [h2]⟩)
  ⟨fun vs H Q E q => h.len vs H Q E (i _ _ _ _ q), fun A outer s H args us vs Q E p hr h1 h2 he hb hv hs => h.run A outer s H args us vs Q E p hr h1 h2 he hb hv (i _ _ _ _ hs)⟩
theorem ok_ne {α : Type} {x : α} {y : Ex} (h : (M.ok x : M α) = .er y) : False := by cases h
/-- what __init__ answers: the fields behind it -/
def fnI {β γ ρ : Type} (n : M (Out β γ ρ)) : M β := match n with
  | .ok (.nx b) => .ok b
  | .ok _ => .no
  | .er x => .er x
  | .no => .no
theorem fnI_iniO {β γ ρ : Type} (F : β → List (Str × D)) (n : M (Out β γ ρ)) : iniO F n = mb (fnI n) fun r => .ok (F r) := by
  cases n with
  | ok o => cases o <;> rfl
  | er x => rfl
  | no => rfl
theorem fn_I {α β γ ρ : Type} {k : Nat} {f : Addr} {fd : FuncData} {ps : List Str} {encs : α → List Sl} {P : Program} {w : World} {K : PySem.W.Frag} {mg : Str → Option Value} {base : Heap} {ca : Str → Addr} {Cn : Str} {Fl : β → List (Str × D)} {code : α → M (Out β γ ρ)} {g : α → M β} (h : FnOk P w K mg base (L2N.CX P w) k f fd ps (spN K ca Cn encs fun a => iniO Fl (code a)))
    (hg : ∀ a, fnI (code a) = g a) : FnOk P w K mg base (L2N.CX P w) k f fd ps (spN K ca Cn encs fun a => mb (g a) fun r => .ok (Fl r)) := by
  have e : (fun a => iniO Fl (code a)) = fun a => mb (g a) fun r => .ok (Fl r) := by
    funext a
    rw [fnI_iniO, hg a]
  rw [← e]
  exact h
def caL (l : List (Str × Addr)) (x : Str) : Addr := (l.lookup x).getD 0
def faL (l : List Addr) (n : Nat) : Addr := l.getD n 0
def fdL {K : PySem.W.Frag} {x q : Str} {st : Stmt} {f : Addr} {d : FuncData} (_ : Fun K x q st f d) (l : List FuncData) (n : Nat) : FuncData := l.getD n d
theorem kit_self {K : PySem.W.Frag} {C : Addr} : PySem.W.kitOne K (.ref C) (.ref C) = some true := if_pos (by simp)
theorem cx_end {P : Program} {w : World} {H : Hp} {s : Shared} {e : Value} {s' : Shared} (h : L2N.CX P w [] H s (fun _ _ _ => False) e s') : False := by
  obtain ⟨_, _, _, _, _, _, _, _, _, _, _, _, _, _, _, _, w⟩ := h
/-- the positional arguments, then the keyword's -/
theorem a3 {K : PySem.W.Frag} {ca : Str → Addr} {α β γ : Type} {e1 : α → List Sl} {e2 : β → List Sl} {e3 : γ → List Sl} {mk : α → β → γ} (h : ∀ z y, e3 (mk z y) = e1 z ++ e2 y) (G H : Hp) (v : V) (vs zs : List V) (z : α) (y : β) (h1 : ArgL K ca G H vs (e1 z)) (h2 : ArgL K ca G H zs (e2 y)) :
    ∃ ws, (v :: vs) ++ zs = v :: ws ∧ ArgL K ca G H ws (e3 (mk z y)) := by
  refine ⟨vs ++ zs, rfl, ?_⟩
  rw [h]
  have app : ∀ {us : List V} {ss : List Sl}, ArgL K ca G H us ss → ArgL K ca G H (us ++ zs) (ss ++ e2 y) := by
    intro us ss q
    induction q with
    | nil => exact h2
    | cons d t ih => exact .cons d ih
    | consL p d t ih => exact .consL p d ih
  exact app h1
end DL

namespace DL
open PySem PySem.Spec PyProof.Rows L2
variable {X : Cx} {J : Jx}
section
variable {α β β' γ δ ρ : Type} {S S' : List Sl} {N : β → List Sl} {N' : β' → List Sl} {L : γ → List Sl} {R : ρ → RV} {enc : α → D} {enb : β → D} {a b c e tg : Expr} {es : List Expr} {pos p : Pos} {k j : Nat} {rest body : List Stmt}
/-! ### x[i] = e, x a list of one's own -/
def setM {α : Type} (xs : List α) (i : Int) (x : α) : M (List α) := match ixN xs.length i with
  | some j => .ok (xs.set j x)
  | none => .no
theorem ss_put {m : M α} {mi : M Int} {f : List α → M (Out β γ ρ)} {xs : List α} {x : Str} {ie : Expr} {px p2 : Pos} (i : Nat) (hs : S[i]? = some (.ow (xs.map enc))) (hp : PE X (.Name x px) (tVar i)) (he : DE X J S e enc m) (hi : DE X J S ie eI mi)
    (hr : ∀ ys, DSs X J (S.set i (.ow (ys.map enc))) rest N L R (f ys)) (hw : Wk S J.Sx)
    (h1 : swapsWithSole [.Subscript (.Name x px) ie p2] e pos.line X.env = pure false := by rfl) (h2 : swappedStores [.Subscript (.Name x px) ie p2] e X.env = pure none := by rfl) (h3 : (assignEach [.Subscript (.Name x px) ie p2] X.env).map (·.2) = [assign (.Subscript (.Name x px) ie p2) X.env] := by rfl)
    (ha : ∀ v, assign (.Subscript (.Name x px) ie p2) X.env v = (do
      let ov ← holding [v] (eval (.Name x px) X.env)
      let iv ← holding [v, ov] (eval ie X.env)
      standAt p2
      holding [v, ov, iv] (setItem ov iv v)
      release [v, ov, iv] []) := by intro _; rfl) :
    DSs X J S (.Assign [.Subscript (.Name x px) ie p2] e pos :: rest) N L R (mb m fun z => mb mi fun j => mb (setM xs j z) f) :=
  pss_imp (pss_cons (ps_asg he (pg_sub hp hi set_list ha) h1 h2 h3) (pss_ex hr)) fun Dn σ H ⟨G, own, ok, fin⟩ => by
    refine E_bind (FinS.wish hw) ok ⟨fin, ok⟩ fun z v G1 H1 g1 ok1 d r => ?_
    obtain ⟨q, vs, q1, q2, q3, q4⟩ := ok1.sl i _ hs
    refine ⟨.ref q, q1, E_bind (FinS.wish hw) ok1 r fun y u G2 H2 g2 ok2 d2 r2 => ?_⟩
    cases d2
    have hq := g2.h _ _ q3
    have q4' := q4.mono g2.g
    have hl := q4'.length
    rw [List.length_map] at hl
    have r3 := r2.1
    unfold setM at r3
    cases hix : ixN xs.length y with
    | none => rw [hix] at r3; exact r3.elim
    | some jj =>
      rw [hix] at r3
      have dl : DenL X.K J.ca G2 (vs.set jj v) ((xs.set jj z).map enc) := by
        rw [List.map_set]
        exact DenL.set (d.mono g2.g) jj q4'
      exact ⟨q, vs, y, jj, rfl, rfl, hq, by rw [hl]; exact hix, _, G2, own, ok2.mut hq q2 dl q1, r3⟩
/-! ### targets of several names -/
def DGs (X : Cx) (J : Jx) (es : List Expr) {β : Type} (encs : β → List D) (T : β → List Sl → List Sl) : Prop := ∃ t, PGs X es t ∧ ∀ (x : β) (vs : List V) (G H : Hp) (own : Addr → Option Nat) (σ : L2.St) (S : List Sl) (Q : L2.St → Hp → Prop), OkX X J G H own σ S → DenL X.K J.ca G vs (encs x) →
  (∀ σ' own', OkX X J G H own' σ' (T x S) → Q σ' H) → t vs σ H Q
theorem gs_nil : DGs X J [] (fun _ : β => []) (fun _ S => S) := ⟨_, pgs_nil, fun x vs G H own σ S Q ok d q => by cases d; exact ⟨rfl, q σ own ok⟩⟩
theorem gs_cons {d : β → D} {encs : β → List D} {T : β → List Sl → List Sl} {i : Nat} {x : Str} (hN : X.N.Nodup) (h2 : DGs X J es encs T) (hi : X.N[i]? = some x := by rfl) (hx : Loc X.env.scope x := by first | exact Or.inl rfl | exact Or.inr rfl) (hf : X.fn x = true ∨ X.env.scope.names.lookup x = some .local := by first | exact .inl rfl | exact .inr rfl)
    (hs : (assignEach (.Name x p :: es) X.env).map (·.2) = assign (.Name x p) X.env :: (assignEach es X.env).map (·.2) := by rfl) : DGs X J (.Name x p :: es) (fun z => d z :: encs z) (fun z S => T z (S.set i (.fr (d z)))) := by
  obtain ⟨t, h, ht⟩ := h2
  refine ⟨_, pgs_cons (pg_name hN hi hx hf) h hs, fun z vs G H own σ S Q ok den q => ?_⟩
  cases den with
  | cons d1 d2 => exact ⟨_, _, rfl, ht z _ G H own _ _ Q (ok.setF d1) d2 q⟩
theorem g_tup {encs : α → List D} {T : α → List Sl → List Sl} {kk n : Nat} (hc : X.calm = true) (h : DGs X J es encs T) (he : ∀ z, enc z = .tup (encs z)) (hl : ∀ z, (encs z).length = n) (hn : (assignEach es X.env).length = n := by rfl) (hst : (assignEach es X.env).findIdx? (·.1) = none := by rfl) : DG X J (.Tuple es kk pos) enc T := by
  obtain ⟨t, h, ht⟩ := h
  refine ⟨_, pg_tup hc h hn hst, fun z v G H own σ S Q ok d q => ?_⟩
  rw [he z] at d
  obtain ⟨a, vs, rfl, h1, h2⟩ := Den.tup' (X := X) d
  exact ⟨a, vs, rfl, same_seqT ok.gh h1, by rw [h2.length, hl], ht z vs G H own σ S Q ok h2 q⟩
theorem g_unl {encs : α → List D} {T : α → List Sl → List Sl} {kk n : Nat} (hc : X.calm = true) (h : DGs X J es encs T) (he : ∀ z, enc z = .lst (encs z)) (hl : ∀ z, (encs z).length = n) (hn : (assignEach es X.env).length = n := by rfl) (hst : (assignEach es X.env).findIdx? (·.1) = none := by rfl) : DG X J (.Tuple es kk pos) enc T := by
  obtain ⟨t, h, ht⟩ := h
  refine ⟨_, pg_unl hc h hn hst, fun z v G H own σ S Q ok d q => ?_⟩
  rw [he z] at d
  obtain ⟨a, vs, rfl, h1, h2⟩ := Den.lst' (X := X) d
  exact ⟨a, vs, rfl, SqL.of (ok.gh _ _ h1), by rw [h2.length, hl], ht z vs G H own σ S Q ok h2 q⟩
/-- target = e -/
theorem ss_asgG {m : M α} {f : α → M (Out β γ ρ)} {T : α → List Sl → List Sl} (he : DE X J S e enc m) (hg : DG X J tg enc T) (hr : ∀ x, DSs X J (T x S) rest N L R (f x)) (hw : Wk S J.Sx) (h1 : swapsWithSole [tg] e pos.line X.env = pure false := by rfl) (h2 : swappedStores [tg] e X.env = pure none := by rfl) (h3 : (assignEach [tg] X.env).map (·.2) = [assign tg X.env] := by rfl) :
    DSs X J S (.Assign [tg] e pos :: rest) N L R (mb m f) := by
  obtain ⟨g, hg, hgt⟩ := hg
  exact pss_imp (pss_cons (ps_asg he hg h1 h2 h3) (pss_ex hr)) fun Dn σ H ⟨G, own, ok, fin⟩ =>
    E_bind (FinS.wish hw) ok ⟨fin, ok⟩ fun x v G1 H1 g1 ok1 d r => hgt x v G1 H1 own σ S _ ok1 d fun σ' own' ok' => ⟨x, G1, own', ok', r.1⟩
/-- a list of a known length, by its items -/
def un2 {α : Type} : List α → M (α × α)
  | [a, b] => .ok (a, b)
  | _ => .no
def un3 {α : Type} : List α → M (α × α × α)
  | [a, b, c] => .ok (a, b, c)
  | _ => .no
def un4 {α : Type} : List α → M (α × α × α × α)
  | [a, b, c, d] => .ok (a, b, c, d)
  | _ => .no
theorem e_un {κ : Type} {enk : κ → D} {un : List α → M κ} (hun : (∀ xs z, un xs = .ok z → eL enc xs = enk z) ∧ ∀ xs y, un xs ≠ .er y) {m : M (List α)} (h : DE X J S a (eL enc) m) : DE X J S a enk (mb m un) := e_enc h (by
  cases m with
  | ok xs => exact ⟨fun z hz => ⟨xs, rfl, hun.1 xs z hz⟩, fun y hy => absurd hy (hun.2 xs y)⟩
  | er x => exact ⟨fun z hz => (by cases hz), fun y hy => (by cases hy; rfl)⟩
  | no => exact ⟨fun z hz => (by cases hz), fun y hy => (by cases hy)⟩)
theorem un2_ok : (∀ (xs : List α) z, un2 xs = .ok z → eL enc xs = eH2 enc enc z) ∧ ∀ (xs : List α) y, un2 xs ≠ .er y := by
  constructor
  · intro xs z h
    unfold un2 at h
    split at h
    · cases h; rfl
    · cases h
  · intro xs y h
    unfold un2 at h
    split at h <;> cases h
theorem un3_ok : (∀ (xs : List α) z, un3 xs = .ok z → eL enc xs = eH3 enc enc enc z) ∧ ∀ (xs : List α) y, un3 xs ≠ .er y := by
  constructor
  · intro xs z h
    unfold un3 at h
    split at h
    · cases h; rfl
    · cases h
  · intro xs y h
    unfold un3 at h
    split at h <;> cases h
theorem un4_ok : (∀ (xs : List α) z, un4 xs = .ok z → eL enc xs = eH4 enc enc enc enc z) ∧ ∀ (xs : List α) y, un4 xs ≠ .er y := by
  constructor
  · intro xs z h
    unfold un4 at h
    split at h
    · cases h; rfl
    · cases h
  · intro xs y h
    unfold un4 at h
    split at h <;> cases h
/-- a, b = e, f: both names local -/
theorem ss_par2 {m : M α} {n : M β'} {encb : β' → D} {f : α → β' → M (Out β γ ρ)} {i j : Nat} {x y : Str} {px py pt pt2 : Pos} {kt k2 : Nat} (hc : X.calm = true) (hN : X.N.Nodup) (ha : DE X J S a enc m) (hb : DE X J S b encb n) (hr : ∀ x y, DSs X J ((S.set i (.fr (enc x))).set j (.fr (encb y))) rest N L R (f x y)) (hw : Wk S J.Sx) (hij : i ≠ j := by decide)
    (hi : X.N[i]? = some x := by rfl) (hj : X.N[j]? = some y := by rfl) (hx : X.env.scope.names.lookup x = some .local := by rfl) (hy : X.env.scope.names.lookup y = some .local := by rfl)
    (h2 : swappedStores [.Tuple [.Name x px, .Name y py] kt pt] (.Tuple [a, b] k2 pt2) X.env = pure (some [x, y]) := by rfl)
    (h1 : swapsWithSole [.Tuple [.Name x px, .Name y py] kt pt] (.Tuple [a, b] k2 pt2) pos.line X.env = pure false := by rfl) (hs : starEach [a, b] X.env = (false, eval a X.env) :: starEach [b] X.env := by rfl) (hs2 : starEach [b] X.env = (false, eval b X.env) :: starEach [] X.env := by rfl) :
    DSs X J S (.Assign [.Tuple [.Name x px, .Name y py] kt pt] (.Tuple [a, b] k2 pt2) pos :: rest) N L R (mb m fun x => mb n fun y => f x y) :=
  pss_imp (pss_cons (ps_par hc hN hi hj hij hx hy (pa_cons ha (pa_cons hb pa_nil hs2) hs) h2 h1) (pss_ex fun x : α => pss_ex fun y : β' => hr x y)) fun Dn σ H ⟨G, own, ok, fin⟩ =>
    E_bind (FinS.wish hw) ok ⟨fin, ok⟩ fun z v G1 H1 g1 ok1 d r => E_bind (FinS.wish hw) ok1 r fun y u G2 H2 g2 ok2 d2 r2 =>
      ⟨v, u, rfl, z, y, G2, own, (ok2.setF (d.mono g2.g)).setF d2, r2.1⟩
/-! ### int(b), texts -/
theorem e_intB {m : M Bool} (hm : X.mg "int" = none) (h : PA X [a] (tCons (tE X J S eB m) tNil)) (hg : Gl X "int" := by rfl)
    (he : starEach (a :: []) X.env = (false, eval a X.env) :: starEach [] X.env := by rfl) (hpl : (backTo pos (starEach [] X.env)).any (·.1) = false := by rfl) : DE X J S (.Call (.Name "int" p) [a] [] pos) eI (mb m fun x => .ok (if x = true then 1 else 0)) :=
  pe_imp (pe_callTy call_int1 hg hm boot_int h (by decide) (by decide) he hpl) fun σ H Q ⟨G, own, ok, fin⟩ => E_bind (Fin.wish (enc := eI) (Q := Q)) ok fin fun i v G1 H1 g ok1 d r => by
    cases d
    exact .inr ⟨i, rfl, r _ G1 H1 (Grow.refl ok1.gh) (.int _)⟩
def catS (x y : Str) : M Str := if x.length + y.length ≤ line then .ok (x ++ y) else .no
theorem e_catS {m n : M Str} (ha : DE X J S a eS m) (hb : DE X J S b eS n) : DE X J S (.BinOp a .Add b pos) eS (mb m fun x => mb n fun y => catS x y) :=
  pe_imp (pe_op op_add_str ha hb) fun σ H Q ⟨G, own, ok, fin⟩ => E_bind Fin.wish ok fin fun x v G1 H1 g1 ok1 d1 r => E_bind Fin.wish ok1 r fun y u G2 H2 g2 ok2 d2 r2 => by
    cases d1; cases d2
    unfold catS at r2
    split at r2
    · rename_i h
      exact ⟨x, y, rfl, rfl, Nat.le_trans h line_le, r2 _ G2 H2 (Grow.refl ok2.gh) (.str _)⟩
    · exact r2.elim
def lenS (x : Str) : M Int := if x.length ≤ line then .ok (x.length : Int) else .no
theorem e_lenStr {m : M Str} (hm : X.mg "len" = none) (h : PA X [a] (tCons (tE X J S eS m) tNil)) (hg : Gl X "len" := by rfl)
    (he : starEach (a :: []) X.env = (false, eval a X.env) :: starEach [] X.env := by rfl) (hpl : (backTo pos (starEach [] X.env)).any (·.1) = false := by rfl) : DE X J S (.Call (.Name "len" p) [a] [] pos) eI (mb m fun x => lenS x) :=
  pe_imp (pe_callB call_len_str hg hm PySem.boot_len h (by decide) (by decide) he hpl) fun σ H Q ⟨G, own, ok, fin⟩ => E_bind Fin.wish ok fin fun x v G1 H1 g ok1 d r => by
    cases d
    unfold lenS at r
    split at r
    · rename_i h
      exact ⟨x, rfl, Nat.le_trans h line_le, r _ G1 H1 (Grow.refl ok1.gh) (.int _)⟩
    · exact r.elim
end
end DL

namespace DL
open PySem PySem.Spec PyProof.Rows L2
variable {X : Cx} {J : Jx}
section
variable {α β γ δ ρ : Type} {S : List Sl} {enc : α → D} {enb : β → D} {a b c e : Expr} {es : List Expr} {pos p : Pos} {k j : Nat}
/-! ### sum of a tuple of ints -/
theorem cr_sumT (hc : X.calm = true) : CallR X (.builtin "sum") (fun vs H Q => ∃ (a : Addr) (ns : List Int), vs = [V.ref a] ∧ SqT X.K H a (ns.map V.int) ∧ Q (.int ns.sum) H) := by
  intro pins s σ H vs us Q I r h
  obtain ⟨a, ns, rfl, hs, q⟩ := h
  obtain ⟨its, rv, hl, _⟩ := I.tuple hs
  rw [Vals.ref1 r]
  have hi := rv.ints
  obtain ⟨xs, hx⟩ := hi.allInts.items
  have hn : numsOf its.toArray.toList = ns := by rw [show its.toArray.toList = its from rfl, hi.numsOf]
  have hl' : s.heap.IsTuple a its.toArray := hl
  rw [hx] at hl' hn
  rw [nums_intItems] at hn
  refine PySem.W.ktm_sumG (I.ok.hd hc) hl' fun h' tk t' hk => ⟨.int _, H, I.kept hk, ⟨t', ?_⟩, q⟩
  rw [preSum_eq, List.take_of_length_le (by simp), hn]
theorem e_sumT {m : M (List Int)} (hc : X.calm = true) (hm : X.mg "sum" = none) (h : PA X [a] (tCons (tE X J S (eT eI) m) tNil)) (hg : Gl X "sum" := by rfl)
    (he : starEach (a :: []) X.env = (false, eval a X.env) :: starEach [] X.env := by rfl) (hpl : (backTo pos (starEach [] X.env)).any (·.1) = false := by rfl) : DE X J S (.Call (.Name "sum" p) [a] [] pos) eI (mb m fun xs => .ok xs.sum) :=
  pe_imp (pe_callB (cr_sumT hc) hg hm (by decide +kernel) h (by decide) (by decide) he hpl) fun σ H Q ⟨G, own, ok, fin⟩ => E_bind Fin.wish ok fin fun xs v G1 H1 g ok1 d r => by
    obtain ⟨q, vs, rfl, h1, h2⟩ := Den.tuple (X := X) ok1.gh d
    rw [DenL.ints h2] at h1
    exact ⟨q, xs, rfl, h1, r _ G1 H1 (Grow.refl ok1.gh) (.int _)⟩
/-! ### sorted(xs), ints -/
def sortI (xs : List Int) : List Int := xs.mergeSort fun a b => decide (a ≤ b)
theorem sortI_eq {xs ys : List Int} (h : ys.Perm xs) (h2 : ys.Pairwise (· ≤ ·)) : ys = sortI xs := by
  have p : (sortI xs).Perm xs := List.mergeSort_perm _ _
  have s : (sortI xs).Pairwise (· ≤ ·) := by
    have := List.pairwise_mergeSort (le := fun a b : Int => decide (a ≤ b)) (fun a b c h1 h2 => by simp at *; omega) (fun a b => by simp; omega) xs
    exact this.imp fun h => by simpa using h
  exact (h.trans p.symm).eq_of_pairwise (fun a b _ _ h1 h2 => Int.le_antisymm h1 h2) h2 s
theorem o_sorted {m : M (List Int)} (hm : X.mg "sorted" = none) (h : PA X [a] (tCons (tEb X J S (eL eI) m) tNil)) (hg : Gl X "sorted" := by rfl)
    (he : starEach (a :: []) X.env = (false, eval a X.env) :: starEach [] X.env := by rfl) (hpl : (backTo pos (starEach [] X.env)).any (·.1) = false := by rfl) : DO X J S (.Call (.Name "sorted" p) [a] [] pos) eI (mb m fun xs => .ok (sortI xs)) :=
  pe_imp (pe_callB cr_sortedI hg hm (by decide +kernel) h (by decide) (by decide) he hpl) fun σ H Q ⟨G, own, ok, fin⟩ => B_bind FinO.wish ok fin fun xs v G1 H1 g ok1 d r => by
    obtain ⟨q, vs, rfl, h1, h2⟩ := DenB.list ok1.gh d
    rw [DenL.ints h2] at h1
    refine ⟨q, xs, rfl, SqL.of h1, fun ns' l hp hw hl => ?_⟩
    rw [sortI_eq hp hw]
    exact r l _ G1 _ (Grow.allocO ok1.gh hl) hl upd_same (Same.free ok1.gh hl) (DL.DenL.of_ints _)
/-! ### a sign of a text -/
def ixC (x : Str) (i : Int) : M Str := if x.length ≤ line then (match atI x.cps.toList i with
  | some c => .ok ⟨#[c]⟩
  | none => .no) else .no
theorem e_ixStr {m : M Str} {mi : M Int} (ha : DE X J S a eS m) (hb : DE X J S b eI mi) (hs : PlainIx b := by intro _ _; rfl) : DE X J S (.Subscript a b pos) eS (mb m fun x => mb mi fun i => ixC x i) :=
  pe_imp (pe_ix ix_str ha hb hs) fun σ H Q ⟨G, own, ok, fin⟩ => E_bind Fin.wish ok fin fun x v G1 H1 g ok1 d r => E_bind Fin.wish ok1 r fun i u G2 H2 g2 ok2 d2 r2 => by
    cases d; cases d2
    unfold ixC at r2
    split at r2
    · rename_i hz
      split at r2
      · rename_i c hc
        exact ⟨x, i, c, rfl, rfl, Nat.le_trans hz line_le, hc, r2 _ G2 H2 (Grow.refl ok2.gh) (.str _)⟩
      · exact r2.elim
    · exact r2.elim
end
/-! ### classes without defaults, with defaults -/
theorem funD_of {K : PySem.W.Frag} {x q : Str} {st : Stmt} {f : Addr} {fd : FuncData} (F : Fun K x q st f fd) : FunD K x q (defArgs st) (defBody st) (defScope st) [] [] f fd := by
  obtain ⟨oc, od, kV, doc, pm, an, cdv, ct, osl, e, l, c⟩ := F.ex
  exact ⟨⟨oc, od, .none, kV, doc, pm, an, cdv, ct, osl, e, l, c, .inl ⟨rfl, rfl⟩, .inl rfl⟩, F.kp⟩
theorem kb_all {K : PySem.W.Frag} {fd : FuncData} {ps : List Str} {n : Nat} (b : Binds K fd ps []) (hn : n = ps.length := by rfl) : ∃ g, KBn K fd ps n [] g (fun vs zs => vs ++ zs) :=
  ⟨fun us ws => us ++ ws, fun s us ws X h1 h2 => by
    cases ws with
    | nil => exact b s us X (by rw [List.append_nil, h1, hn])
    | cons w ws => simp at h2, fun r1 r2 => r1.append r2⟩
theorem kb_dfl {K : PySem.W.Frag} {fd : FuncData} {ps : List Str} {n : Nat} {dvs : List V} (h : ∃ ds, Vals dvs ds ∧ Binds K fd ps ds) (hn : n + dvs.length = ps.length) : ∃ g, KBn K fd ps n [] g (fun vs _ => vs ++ dvs) := by
  obtain ⟨ds, h1, h2⟩ := h
  refine ⟨fun us _ => us ++ ds, ⟨fun s us ws X l1 l2 => ?_, fun r1 _ => r1.append h1⟩⟩
  cases ws with
  | nil => exact h2 s us X (by rw [List.length_append, ← h1.length, l1, hn])
  | cons w ws => simp at l2
/-- defaults behind the arguments -/
theorem a3d {K : PySem.W.Frag} {ca : Str → Addr} {α β γ : Type} {e1 : α → List Sl} {e2 : β → List Sl} {e3 : γ → List Sl} {mk : α → β → γ} {ds : List D} {vs0 : List V} (hd : ∀ {G : Hp}, DenL K ca G vs0 ds) (h : ∀ z y, e3 (mk z y) = e1 z ++ ds.map Sl.fr) (G H : Hp) (v : V) (vs zs : List V) (z : α) (y : β) (h1 : ArgL K ca G H vs (e1 z)) (h2 : ArgL K ca G H zs (e2 y)) :
    ∃ ws, (v :: vs) ++ vs0 = v :: ws ∧ ArgL K ca G H ws (e3 (mk z y)) := by
  refine ⟨vs ++ vs0, rfl, ?_⟩
  rw [h]
  have app : ∀ {us : List V} {ss : List Sl}, ArgL K ca G H us ss → ArgL K ca G H (us ++ vs0) (ss ++ ds.map Sl.fr) := by
    intro us ss q
    induction q with
    | nil => exact ArgL.of hd
    | cons d t ih => exact .cons d ih
    | consL p d t ih => exact .consL p d ih
  exact app h1
end DL

namespace DL
open PySem PySem.Spec PyProof.Rows L2
variable {X : Cx} {J : Jx}
section
variable {α β β' γ δ ρ : Type} {S S' : List Sl} {N : β → List Sl} {N' : β' → List Sl} {L : γ → List Sl} {R : ρ → RV} {enc : α → D} {enb : β → D} {a b c e tg : Expr} {es : List Expr} {pos p : Pos} {k j : Nat} {rest body : List Stmt}
/-! ### methods that change a list of one's own -/
def insM (xs : List α) (i : Int) (x : α) : M (List α) := if 0 ≤ i ∧ i < 2 ^ 62 ∧ xs.length < line then .ok (xs.take i.toNat ++ [x] ++ xs.drop i.toNat) else .no
theorem ss_ins {m : M α} {mi : M Int} {f : List α → M (Out β γ ρ)} {xs : List α} {x : Str} {px p2 pos2 : Pos} (i : Nat) (hs : S[i]? = some (.ow (xs.map enc))) (hp : PE X (.Name x px) (tVar i)) (hi : DE X J S a eI mi) (he : DE X J S e enc m) (hr : ∀ ys, DSs X J (S.set i (.ow (ys.map enc))) rest N L R (f ys)) (hw : Wk S J.Sx)
    (hb : PE X (.Call (.Attribute (.Name x px) "insert" p2) [a, e] [] pos2) (tBM X.K "list" (fun x vs H Q => ∃ (l : Addr) (xs : List V) (i : Int) (y : V), x = .ref l ∧ vs = [.int i, y] ∧ H l = some (.lst xs) ∧ xs.length < sizeLine ∧ 0 ≤ i ∧ i < 2 ^ 63 ∧
      Q .non (upd H l (.lst (xs.take i.toNat ++ [y] ++ xs.drop i.toNat)))) (tVar i) (tCons (tE X J S eI mi) (tCons (tE X J S enc m) tNil))))
    (hsw : swapsWith (.Call (.Attribute (.Name x px) "insert" p2) [a, e] [] pos2) none pos.line X.env = pure false := by rfl) :
    DSs X J S (.Expr (.Call (.Attribute (.Name x px) "insert" p2) [a, e] [] pos2) pos :: rest) N L R (mb mi fun j => mb m fun z => mb (insM xs j z) f) :=
  pss_imp (pss_cons (ps_expr hb hsw) (pss_ex hr)) fun Dn σ H ⟨G, own, ok, fin⟩ => by
    obtain ⟨q, vs, h1, h2, h3, h4⟩ := ok.sl i _ hs
    refine ⟨.ref q, h1, .inl ⟨rfl, _, SqL.of h3⟩, ?_⟩
    refine E_bind (FinS.wish hw) ok ⟨fin, ok⟩ fun j u G1 H1 g1 ok1 d1 r1 => E_bind (FinS.wish hw) ok1 r1 fun z v G2 H2 g2 ok2 d r => ?_
    cases d1
    have hq := g2.h _ _ (g1.h _ _ h3)
    have h4' := (h4.mono g1.g).mono g2.g
    have hl := h4.length
    rw [List.length_map] at hl
    have r2 := r.1
    unfold insM at r2
    split at r2
    · rename_i hz
      have dl : DenL X.K J.ca G2 (vs.take j.toNat ++ [v] ++ vs.drop j.toNat) ((xs.take j.toNat ++ [z] ++ xs.drop j.toNat).map enc) := by
        rw [List.map_append, List.map_append, List.map_take, List.map_drop]
        exact ((h4'.take _).append (.cons d .nil)).append (h4'.drop _)
      exact ⟨q, vs, j, v, rfl, rfl, hq, by rw [hl]; exact Nat.lt_of_lt_of_le hz.2.2 line_le, hz.1, by omega, _, G2, own, ok2.mut hq h2 dl h1, r2⟩
    · exact r2.elim
/-- the last item, the rest -/
def popM (xs : List α) : M (α × List α) := match xs[xs.length - 1]? with
  | some x => .ok (x, xs.dropLast)
  | none => .no
theorem DenL.dropLast {K : PySem.W.Frag} {ca : Str → Addr} {H : Hp} {vs : List V} {ds : List D} (h : DenL K ca H vs ds) : DenL K ca H vs.dropLast ds.dropLast := by
  rw [List.dropLast_eq_take, List.dropLast_eq_take, h.length]
  exact h.take _
/-- what a pop leaves -/
theorem pop_of {G H : Hp} {own : Addr → Option Nat} {σ : L2.St} {i : Nat} {xs : List α} {q : Addr} {vs : List V} {y : α} {ys : List α} (ok : OkX X J G H own σ S) (h1 : σ[i]? = some (some (.ref q))) (h2 : own q = some i) (h3 : H q = some (.lst vs)) (h4 : DenL X.K J.ca G vs (xs.map enc)) (hy : popM xs = .ok (y, ys)) :
    ∃ v, vs[vs.length - 1]? = some v ∧ Den X.K J.ca G v (enc y) ∧ OkX X J G (upd H q (.lst vs.dropLast)) own σ (S.set i (.ow (ys.map enc))) := by
  have hl := h4.length
  rw [List.length_map] at hl
  unfold popM at hy
  split at hy
  · rename_i x hx
    cases hy
    obtain ⟨v, e1, e2⟩ := h4.get (i := xs.length - 1) (d := enc y) (by rw [List.getElem?_map, hx]; rfl)
    refine ⟨v, by rw [hl]; exact e1, e2, ok.mut h3 h2 ?_ h1⟩
    rw [List.map_dropLast]
    exact DenL.dropLast h4
  · cases hy
theorem ss_popS {f : List α → M (Out β γ ρ)} {xs : List α} {x : Str} {px p2 pos2 : Pos} (i : Nat) (hs : S[i]? = some (.ow (xs.map enc))) (hr : ∀ ys, DSs X J (S.set i (.ow (ys.map enc))) rest N L R (f ys))
    (hb : PE X (.Call (.Attribute (.Name x px) "pop" p2) [] [] pos2) (tBM0 X.K "list" rPop (tVar i)))
    (hsw : swapsWith (.Call (.Attribute (.Name x px) "pop" p2) [] [] pos2) none pos.line X.env = pure false := by rfl) :
    DSs X J S (.Expr (.Call (.Attribute (.Name x px) "pop" p2) [] [] pos2) pos :: rest) N L R (mb (popM xs) fun y => f y.2) :=
  pss_imp (pss_cons (ps_expr hb hsw) (pss_ex hr)) fun Dn σ H ⟨G, own, ok, fin⟩ => by
    obtain ⟨q, vs, h1, h2, h3, h4⟩ := ok.sl i _ hs
    cases hy : popM xs with
    | no => rw [hy] at fin; exact fin.elim
    | er z => unfold popM at hy; split at hy <;> cases hy
    | ok y =>
      rw [hy] at fin
      obtain ⟨v, e1, e2, ok2⟩ := pop_of ok h1 h2 h3 h4 hy
      exact ⟨.ref q, h1, .inl ⟨rfl, _, SqL.of h3⟩, q, vs, v, rfl, rfl, h3, e1, _, G, own, ok2, fin⟩
/-- y = x.pop() -/
theorem ss_popA {f : α → List α → M (Out β γ ρ)} {xs : List α} {x y : Str} {px py p2 pos2 : Pos} (i l : Nat) (hN : X.N.Nodup) (hs : S[i]? = some (.ow (xs.map enc))) (hr : ∀ y ys, DSs X J ((S.set i (.ow (ys.map enc))).set l (.fr (enc y))) rest N L R (f y ys))
    (hb : PE X (.Call (.Attribute (.Name x px) "pop" p2) [] [] pos2) (tBM0 X.K "list" rPop (tVar i))) (hi : X.N[l]? = some y := by rfl) (hx : Loc X.env.scope y := by first | exact Or.inl rfl | exact Or.inr rfl)
    (hsw : swapsWith (.Call (.Attribute (.Name x px) "pop" p2) [] [] pos2) (some (.Name y py)) pos.line X.env = pure false := by rfl) (hf : X.fn y = true ∨ X.env.scope.names.lookup y = some .local := by first | exact .inl rfl | exact .inr rfl) :
    DSs X J S (.Assign [.Name y py] (.Call (.Attribute (.Name x px) "pop" p2) [] [] pos2) pos :: rest) N L R (mb (popM xs) fun y => f y.1 y.2) :=
  pss_imp (pss_cons (ps_set (i := l) hN hi hx hb hsw hf) (pss_ex fun y : α => pss_ex fun ys : List α => hr y ys)) fun Dn σ H ⟨G, own, ok, fin⟩ => by
    obtain ⟨q, vs, h1, h2, h3, h4⟩ := ok.sl i _ hs
    cases hy : popM xs with
    | no => rw [hy] at fin; exact fin.elim
    | er z => unfold popM at hy; split at hy <;> cases hy
    | ok y =>
      rw [hy] at fin
      obtain ⟨v, e1, e2, ok2⟩ := pop_of ok h1 h2 h3 h4 hy
      exact ⟨.ref q, h1, .inl ⟨rfl, _, SqL.of h3⟩, q, vs, v, rfl, rfl, h3, e1, y.1, y.2, G, own, ok2.setF e2, fin⟩
end
end DL

namespace DL
open PySem PySem.Spec PyProof.Rows L2
variable {X : Cx} {J : Jx}
section
variable {α β β' γ δ ρ : Type} {S S' : List Sl} {N : β → List Sl} {N' : β' → List Sl} {L : γ → List Sl} {R : ρ → RV} {enc : α → D} {enb : β → D} {a b c e tg : Expr} {es : List Expr} {pos p : Pos} {k j : Nat} {rest body : List Stmt}
/-! ### x += e, x -= e, ints -/
theorem ss_augI {op : Operator} {g : Int → Int → Int} (ho : PIp X op (ipI g)) {m : M Int} {f : Int → M (Out β γ ρ)} {z : Int} {x : Str} {px : Pos} (i : Nat) (hs : S[i]? = some (.fr (eI z))) (hN : X.N.Nodup) (he : DE X J S e eI m) (hr : ∀ y, DSs X J (S.set i (.fr (eI y))) rest N L R (f y)) (hw : Wk S J.Sx)
    (hi : X.N[i]? = some x := by rfl) (hx : Loc X.env.scope x := by first | exact Or.inl rfl | exact Or.inr rfl) (hf : X.fn x = true ∨ X.env.scope.names.lookup x = some .local := by first | exact .inl rfl | exact .inr rfl) :
    DSs X J S (.AugAssign (.Name x px) op e pos :: rest) N L R (mb m fun y => f (g z y)) :=
  pss_imp (pss_cons (ps_aug (i := i) hN hi hx he ho hf) (pss_ex hr)) fun Dn σ H ⟨G, own, ok, fin⟩ => by
    obtain ⟨v, h1, h2⟩ := ok.sl i _ hs
    cases h2
    refine ⟨_, h1, E_bind (FinS.wish hw) ok ⟨fin, ok⟩ fun y u G1 H1 g1 ok1 d r => ?_⟩
    cases d
    exact ⟨z, y, rfl, rfl, _, G1, own, ok1.setF (.int _), r.1⟩
theorem ss_augAdd {m : M Int} {f : Int → M (Out β γ ρ)} {z : Int} {x : Str} {px : Pos} (i : Nat) (hs : S[i]? = some (.fr (eI z))) (hN : X.N.Nodup) (he : DE X J S e eI m) (hr : ∀ y, DSs X J (S.set i (.fr (eI y))) rest N L R (f y)) (hw : Wk S J.Sx)
    (hi : X.N[i]? = some x := by rfl) (hx : Loc X.env.scope x := by first | exact Or.inl rfl | exact Or.inr rfl) (hf : X.fn x = true ∨ X.env.scope.names.lookup x = some .local := by first | exact .inl rfl | exact .inr rfl) :
    DSs X J S (.AugAssign (.Name x px) .Add e pos :: rest) N L R (mb m fun y => f (z + y)) := ss_augI (g := fun i j => i + j) ip_add i hs hN he hr hw hi hx hf
theorem ss_augSub {m : M Int} {f : Int → M (Out β γ ρ)} {z : Int} {x : Str} {px : Pos} (i : Nat) (hs : S[i]? = some (.fr (eI z))) (hN : X.N.Nodup) (he : DE X J S e eI m) (hr : ∀ y, DSs X J (S.set i (.fr (eI y))) rest N L R (f y)) (hw : Wk S J.Sx)
    (hi : X.N[i]? = some x := by rfl) (hx : Loc X.env.scope x := by first | exact Or.inl rfl | exact Or.inr rfl) (hf : X.fn x = true ∨ X.env.scope.names.lookup x = some .local := by first | exact .inl rfl | exact .inr rfl) :
    DSs X J S (.AugAssign (.Name x px) .Sub e pos :: rest) N L R (mb m fun y => f (z - y)) := ss_augI (g := fun i j => i - j) ip_sub i hs hN he hr hw hi hx hf
end
/-! ### more written lengths -/
section
variable {α β γ δ ε ζ : Type}
def eP5 (e : α → D) (f : β → D) (g : γ → D) (h : δ → D) (i : ε → D) : α × β × γ × δ × ε → D := fun p => .tup [e p.1, f p.2.1, g p.2.2.1, h p.2.2.2.1, i p.2.2.2.2]
def eH5 (e : α → D) (f : β → D) (g : γ → D) (h : δ → D) (i : ε → D) : α × β × γ × δ × ε → D := fun p => .lst [e p.1, f p.2.1, g p.2.2.1, h p.2.2.2.1, i p.2.2.2.2]
def eP6 (e : α → D) (f : β → D) (g : γ → D) (h : δ → D) (i : ε → D) (j : ζ → D) : α × β × γ × δ × ε × ζ → D := fun p => .tup [e p.1, f p.2.1, g p.2.2.1, h p.2.2.2.1, i p.2.2.2.2.1, j p.2.2.2.2.2]
def eH6 (e : α → D) (f : β → D) (g : γ → D) (h : δ → D) (i : ε → D) (j : ζ → D) : α × β × γ × δ × ε × ζ → D := fun p => .lst [e p.1, f p.2.1, g p.2.2.1, h p.2.2.2.1, i p.2.2.2.2.1, j p.2.2.2.2.2]
def un5 : List α → M (α × α × α × α × α)
  | [a, b, c, d, e] => .ok (a, b, c, d, e)
  | _ => .no
def un6 : List α → M (α × α × α × α × α × α)
  | [a, b, c, d, e, f] => .ok (a, b, c, d, e, f)
  | _ => .no
theorem un5_ok {enc : α → D} : (∀ (xs : List α) z, un5 xs = .ok z → eL enc xs = eH5 enc enc enc enc enc z) ∧ ∀ (xs : List α) y, un5 xs ≠ .er y := by
  constructor
  · intro xs z h
    unfold un5 at h
    split at h
    · cases h; rfl
    · cases h
  · intro xs y h
    unfold un5 at h
    split at h <;> cases h
theorem un6_ok {enc : α → D} : (∀ (xs : List α) z, un6 xs = .ok z → eL enc xs = eH6 enc enc enc enc enc enc z) ∧ ∀ (xs : List α) y, un6 xs ≠ .er y := by
  constructor
  · intro xs z h
    unfold un6 at h
    split at h
    · cases h; rfl
    · cases h
  · intro xs y h
    unfold un6 at h
    split at h <;> cases h
end
end DL

namespace DL
open PySem PySem.Spec PyProof.Rows L2
/-! ### set(xs), xs a list of ints: __new__ by code_set_led1, the loop of __init__ by set_update_ints (by name); the walk of type.__call__ and of set.__init__ is here -/
/-- what set.__new__ lays -/
abbrev freshSet (w : World) : Obj := { cls := .type "set", dict := none, data := .set #[] 0 (.fresh 0 0 (!w.params.followText "set-order")) }
section
variable {P : Program} {w : World} {A : Around} {E : Value → Shared → Prop}
theorem init_setL {s : Shared} {S l : Addr} {items : Array Value} {ns : List Int} {Q : PySem.Fin → Shared → Prop} (hh : A.handled = none) (hS : s.heap.get? S = some (freshSet w)) (hl : s.heap.IsList l items) (hne : S ≠ l) (hi : IntsAre items.toList ns) (hb : ns.length + 1 < scanBound)
    (h : ∀ s' c, Moved [S, s.heap.objs.size] (fun a b => b = a) { s with heap := s.heap.push { cls := .type "list_iterator", data := .fields #[.ref l, .int 0 0] } } s' → c ≤ ns.length → SetR w s'.heap S (fun j => decide (j ∈ ns)) c → Q (.done (.ret .none)) s') :
    wpAny (model P w) A (Builtin.«set.__init__» ⟨[.ref S, .ref l], []⟩) Q E s := by
  have hS2 := hS
  have hl2 := hl
  obtain ⟨ol, h1, h2, nl, h3⟩ := hl2
  obtain ⟨c1, d1, dt1, sl1⟩ := ol
  simp only at h2 h3
  subst h2 h3
  have s1 := F.sub_list_set
  have s2 := F.sub_list_frozenset
  have s3 : (Value.type "list" == Value.type "dict") = false := by decide
  obtain ⟨hp, g, d, tk, os⟩ := s
  dsimp only at hS hl h1 h
  unfold Builtin.«set.__init__» noKeywords Builtin.Frozenset.updateFrom
  refine wpAny_bind (wpAny_pure ?_)
  repeat (first | (with_reducible refine wpAny_bind (wpAny_pyIter_list (s := ⟨hp, g, d, tk, os⟩) hl ?_)) | wp_step)
  have hL : l < hp.objs.size := Heap.lt_size h1
  have hSz : S < hp.objs.size := Heap.lt_size hS
  have hA : A.in1.handled = none := by simp [hh]
  have g1 : (hp.push { cls := Value.type "list_iterator", data := Data.fields #[Value.ref l, Value.int 0 0] }).get? S = some (freshSet w) := Heap.get?_push_of_some _ hS
  have hlen : items.size = ns.length := by rw [← IntsAre.length hi, Array.length_toList]
  refine set_update_ints (Walks.toS (Walks.list hA hp.objs.size l (Nat.ne_of_lt hL) items)) S (fun z => ?_) ns hlen hb (fun i v hv => ?_) items.size 0 _ rfl (Nat.zero_le _)
    ⟨⟨_, Heap.get?_push_size _ rfl, rfl, rfl⟩, hl.push _⟩ ⟨0, Nat.le_refl _, setR_new_at g1⟩ fun s2 c hm hc hR => ?_
  · rcases List.mem_cons.mp z with e | e
    · exact absurd e (Nat.ne_of_lt hSz)
    · exact hne (List.mem_singleton.mp e)
  · obtain ⟨t, e⟩ := IntsAre.int_at hi i v (by rw [Array.getElem?_toList]; exact hv)
    have hlt : i < ns.length := by rw [← hlen]; exact (Array.getElem?_eq_some_iff.mp hv).1
    exact ⟨ns[i], t, List.getElem?_eq_getElem hlt, by rw [e, List.getD_eq_getElem?_getD, List.getElem?_eq_getElem hlt]; rfl⟩
  · exact wpAny_pure (wpAny_pure (h s2 c hm (by omega) hR))

/-- set(xs): the walk of type.__call__ -/
theorem set_of_list {s : Shared} {l : Addr} {items : Array Value} {ns : List Int} {Q : Value → Shared → Prop} (hh : A.handled = none) (hl : s.heap.IsList l items) (hi : IntsAre items.toList ns) (hb : ns.length + 1 < scanBound)
    (h : ∀ (h' : Heap) (tk c : Nat), SetR w h' s.heap.objs.size (fun j => decide (j ∈ ns)) c → c ≤ ns.length → (∀ b o, s.heap.get? b = some o → h'.get? b = some o) → Q (.ref s.heap.objs.size) { s with heap := h', toks := tk }) :
    wpAny (model P w) A (call (.type "set") [.ref l]) Q E s := by
  have T := F.called_set
  have a1 := T.notType
  have a2 := T.canCreate
  obtain ⟨a3, a4, a5⟩ := T.mro
  have a6 := T.made
  have a7 := T.sub
  have a8 := F.typeCall_set_1 (.ref l)
  have a9 := T.init.lookup
  refine wpAny_call (codeAny_of_tree ?_)
  wp_walk
  have f1 : (freshSet w).cls = .type "set" := rfl
  refine ⟨Code.quiet_builtin _ (by decide +kernel), codeAny_builtin F.entry_type_call ?_⟩
  rw [Around.under_plain (by rfl) (by rfl)]
  wp_walk
  have g1 : (s.heap.push (freshSet w)).get? s.heap.objs.size = some (freshSet w) := Heap.get?_push_size _ rfl
  refine codeAny_mono (code_set_led1 (E := E) (.ref l) (Q₁ := fun o s1 => o = .ref s.heap.objs.size ∧ s1 = { s with heap := s.heap.push (freshSet w) }) ⟨rfl, rfl⟩) ?_
  rintro (e | (_ | _ | _ | o)) s1 hr
  case ok.ret =>
    obtain ⟨e1, e2⟩ := hr
    subst e1 e2
    have b1 := T.init.bind (.ref s.heap.objs.size)
    have t1 : Shared.TypeIs { s with heap := s.heap.push (freshSet w) } (.ref s.heap.objs.size) "set" := ⟨_, g1, rfl⟩
    wp_walk
    have hlt : l < s.heap.objs.size := let ⟨_, e, _⟩ := hl; Heap.lt_size e
    refine codeAny_call_builtin T.init.plain F.entry_set_init (check_set_init_1 t1 (init_setL (s := { s with heap := s.heap.push (freshSet w) }) (by simp [hh]) g1 (hl.push _) (Nat.ne_of_gt hlt) hi hb fun s2 c hm hc hR => ?_))
    have e : s2 = { s with heap := s2.heap, toks := s2.toks } := by
      obtain ⟨a1, a2, a3, a4, a5⟩ := s2
      have e1 := hm.gens
      have e2 := hm.drawn
      have e3 := hm.os
      dsimp only at e1 e2 e3
      subst e1 e2 e3
      rfl
    have hk : ∀ b o, s.heap.get? b = some o → s2.heap.get? b = some o := fun b o hb => by
      have hbl := Heap.lt_size hb
      have hsz : (s.heap.push (freshSet w)).objs.size = s.heap.objs.size + 1 := Heap.size_push ..
      refine hm.heap b o (fun z => ?_) (Heap.get?_push_of_some _ (Heap.get?_push_of_some _ hb))
      rcases List.mem_cons.mp z with q | q
      · exact absurd q (Nat.ne_of_lt hbl)
      · have q2 : b = (s.heap.push (freshSet w)).objs.size := List.mem_singleton.mp q
        rw [q2, hsz] at hbl
        exact absurd hbl (Nat.not_lt.mpr (Nat.le_succ _))
    wp_walk
    rw [e]
    exact h _ _ c hR hc hk
  all_goals first | exact hr | exact hr.elim
end
/-- set(xs), set(t) -/
theorem cr_setI {X : Cx} (hc : X.calm = true) : CallR X (.type "set") (fun vs H Q => ∃ (a : Addr) (ns : List Int), vs = [V.ref a] ∧ (SqL X.K H a (ns.map V.int) ∨ SqT X.K H a (ns.map V.int)) ∧ ns.length < 1000 ∧
    ∀ (p : Addr) (c : Nat), H p = none → c ≤ ns.length → Q (.ref p) (upd H p (SetO X.w p (fun j => decide (j ∈ ns)) c))) := by
  intro pins s σ H vs us Q I r h
  obtain ⟨a, ns, rfl, hs, hl, q⟩ := h
  have hb : ns.length + 1 < scanBound := by have : 1001 ≤ scanBound := by decide
                                            omega
  rw [Vals.ref1 r]
  have fin : ∀ (h' : Heap) (tk c : Nat), SetR X.w h' s.heap.objs.size (fun j => decide (j ∈ ns)) c → c ≤ ns.length → (∀ b o, s.heap.get? b = some o → h'.get? b = some o) → ∃ (y : V) (H' : Hp), Inv X pins σ H' { s with heap := h', toks := tk } ∧ RelV y (.ref s.heap.objs.size) ∧ Q y H' := fun h' tk c R hcn hk =>
    ⟨.ref s.heap.objs.size, _, I.laid (t' := tk) hk (Nat.le_refl _) (setO_new R), rfl, q _ _ (I.hok.fresh (Nat.le_refl _)) hcn⟩
  rcases hs with hs | hs
  · obtain ⟨its, rv, isl, hz⟩ := I.list hs
    exact set_of_list (I.ok.hd hc) isl.isList (ints_of_vals rv) hb fin
  · obtain ⟨its, rv, pt, hz⟩ := I.tuple hs
    exact call_set_tupI ns (I.ok.hd hc) pt (ints_of_vals rv) hb fin
end DL

namespace DL
open PySem PySem.Spec PyProof.Rows L2
variable {X : Cx} {J : Jx}
section
variable {S : List Sl} {a : Expr} {pos p : Pos}
/-- sorted(set(xs)) -/
def nub : List Int → List Int
  | [] => []
  | x :: xs => if x ∈ xs then nub xs else x :: nub xs
theorem mem_nub {k : Int} : ∀ {xs : List Int}, k ∈ nub xs ↔ k ∈ xs
  | [] => Iff.rfl
  | x :: xs => by
    unfold nub
    split
    · rename_i h
      rw [mem_nub, List.mem_cons]
      constructor
      · exact .inr
      · rintro (rfl | h2)
        · exact h
        · exact h2
    · rw [List.mem_cons, List.mem_cons, mem_nub]
theorem nub_nodup : ∀ xs : List Int, (nub xs).Nodup
  | [] => List.nodup_nil
  | x :: xs => by
    unfold nub
    split
    · exact nub_nodup xs
    · rename_i h
      exact List.nodup_cons.mpr ⟨fun q => h (mem_nub.mp q), nub_nodup xs⟩
def usort (xs : List Int) : List Int := sortI (nub xs)
def sortSet (xs : List Int) : M (List Int) := if xs.length < 64 then .ok (usort xs) else .no
theorem usort_eq {xs ns : List Int} (h : ns.Pairwise (· < ·)) (hm : ∀ k : Int, k ∈ ns ↔ decide (k ∈ xs) = true) : ns = usort xs := by
  refine sortI_eq ?_ (h.imp fun z => Int.le_of_lt z)
  refine (List.perm_ext_iff_of_nodup (h.imp fun z => Int.ne_of_lt z) (nub_nodup xs)).mpr fun k => ?_
  rw [hm k, mem_nub, decide_eq_true_eq]
/-- a thing of ints: a list, a tuple -/
def SeqI (X : Cx) (J : Jx) {α : Type} (enc : α → D) (f : α → List Int) : Prop := ∀ (z : α) (v : V) (G H : Hp) (own : Addr → Option Nat), Same G H → DenB X J G H own v (enc z) → ∃ q, v = .ref q ∧ (SqL X.K H q ((f z).map V.int) ∨ SqT X.K H q ((f z).map V.int))
theorem seqI_L : SeqI X J (eL eI) (fun xs => xs) := fun z v G H own sg d => by
  obtain ⟨q, vs, rfl, h1, h2⟩ := DenB.list (X := X) sg d
  rw [DenL.ints h2] at h1
  exact ⟨q, rfl, .inl (SqL.of h1)⟩
theorem seqI_T : SeqI X J (eT eI) (fun xs => xs) := fun z v G H own sg d => by
  obtain ⟨q, vs, rfl, h1, h2⟩ := DenB.tup (X := X) sg d
  rw [DenL.ints h2] at h1
  exact ⟨q, rfl, .inr h1⟩
theorem o_sortSet {α : Type} {enc : α → D} {f : α → List Int} {m : M α} {p2 q2 : Pos} (hc : X.calm = true) (hm : X.mg "sorted" = none) (hm2 : X.mg "set" = none) (hq : SeqI X J enc f) (h : PA X [a] (tCons (tEb X J S enc m) tNil)) (hg : Gl X "sorted" := by rfl) (hg2 : Gl X "set" := by rfl)
    (he2 : starEach (a :: []) X.env = (false, eval a X.env) :: starEach [] X.env := by rfl) (hpl2 : (backTo q2 (starEach [] X.env)).any (·.1) = false := by rfl)
    (he : starEach (Expr.Call (.Name "set" p2) [a] [] q2 :: []) X.env = (false, eval (.Call (.Name "set" p2) [a] [] q2) X.env) :: starEach [] X.env := by rfl) (hpl : (backTo pos (starEach [] X.env)).any (·.1) = false := by rfl) :
    DO X J S (.Call (.Name "sorted" p) [.Call (.Name "set" p2) [a] [] q2] [] pos) eI (mb m fun z => sortSet (f z)) :=
  pe_imp (pe_callB (cr_sortedSet hc) hg hm (by decide +kernel) (pa_cons (pe_callTy (cr_setI hc) hg2 hm2 boot_set h (by decide) (by decide) he2 hpl2) pa_nil he) (by decide) (by decide) he hpl) fun σ H Q ⟨G, own, ok, fin⟩ => B_bind FinO.wish ok fin fun z v G1 H1 g ok1 d r => by
    obtain ⟨q, rfl, h1⟩ := hq z v _ _ _ ok1.gh d
    unfold sortSet at r
    split at r
    · rename_i hl
      refine ⟨q, f z, rfl, h1, by omega, fun t c ht hcl => ⟨t, _, c, rfl, upd_same, by omega, fun ns l h3 h4 h5 h6 => ?_⟩⟩
      rw [usort_eq h3 h4]
      have n1 : l ≠ t := fun z => by rw [z, upd_same] at h6; cases h6
      have hl1 : H1 l = none := by rw [upd_ne n1] at h6; exact h6
      have g1 := Grow.allocO (o := SetO X.w t (fun j => decide (j ∈ f z)) c) ok1.gh ht
      have g2 := Grow.allocO (o := .lst ((usort (f z)).map V.int)) g1.gh h6
      exact r l _ G1 _ (g1.trans g2) hl1 upd_same (Same.free ok1.gh hl1) (DL.DenL.of_ints _)
    · exact r.elim
end
end DL

namespace DL
open PySem PySem.Spec PyProof.Rows L2
variable {X : Cx} {J : Jx}
/-! ### a list or a tuple, by a flag (true: a tuple) -/
def eQ {α : Type} (e : α → D) : Bool × List α → D := fun z => match z with
  | (true, xs) => .tup (xs.map e)
  | (false, xs) => .lst (xs.map e)
section
variable {α β γ δ ρ : Type} {S : List Sl} {enc : α → D} {enb : β → D} {a b c e tg : Expr} {es : List Expr} {pos p : Pos} {k j : Nat}
theorem q_list {m : M (List α)} (h : DE X J S a (eL enc) m) : DE X J S a (eQ enc) (mb m fun xs => .ok (false, xs)) := e_conv (fun xs => (false, xs)) h fun _ => rfl
theorem q_tup {m : M (List α)} (h : DE X J S a (eT enc) m) : DE X J S a (eQ enc) (mb m fun xs => .ok (true, xs)) := e_conv (fun xs => (true, xs)) h fun _ => rfl
theorem Den.seq {G H : Hp} {v : V} {z : Bool × List α} (e : Same G H) (d : Den X.K J.ca G v (eQ enc z)) : ∃ q vs, v = .ref q ∧ (SqL X.K H q vs ∨ SqT X.K H q vs) ∧ DenL X.K J.ca G vs (z.2.map enc) := by
  obtain ⟨b, xs⟩ := z
  cases b with
  | true =>
    obtain ⟨q, vs, h1, h2, h3⟩ := Den.tuple (X := X) e d
    exact ⟨q, vs, h1, .inr h2, h3⟩
  | false =>
    obtain ⟨q, vs, h1, h2, h3⟩ := Den.lst' (X := X) d
    exact ⟨q, vs, h1, .inl (SqL.of (e _ _ h2)), h3⟩
theorem e_lenQ {m : M (Bool × List α)} (hm : X.mg "len" = none) (h : PA X [a] (tCons (tE X J S (eQ enc) m) tNil)) (hg : Gl X "len" := by rfl)
    (he : starEach (a :: []) X.env = (false, eval a X.env) :: starEach [] X.env := by rfl) (hpl : (backTo pos (starEach [] X.env)).any (·.1) = false := by rfl) : DE X J S (.Call (.Name "len" p) [a] [] pos) eI (mb m fun z => .ok (z.2.length : Int)) :=
  pe_imp (pe_callB call_len_seq hg hm PySem.boot_len h (by decide) (by decide) he hpl) fun σ H Q ⟨G, own, ok, fin⟩ => E_bind Fin.wish ok fin fun z v G1 H1 g ok1 d r => by
    obtain ⟨q, vs, rfl, h1, h2⟩ := Den.seq ok1.gh d
    refine ⟨q, vs, rfl, h1, ?_⟩
    have e := h2.length
    rw [List.length_map] at e
    rw [e]
    exact r _ G1 H1 (Grow.refl ok1.gh) (.int _)
theorem ty_qL : ∀ (z : Bool × List α) v G H own, Same G H → DenB X J G H own v (eQ enc z) → ∃ t', TyX X.K H v t' ∧ PySem.W.kitOne X.K t' (.type "list") = some ((fun z => !z.1) z) :=
  fun z v G H own sg d => by
    obtain ⟨b, xs⟩ := z
    cases b with
    | true =>
      obtain ⟨q, vs, rfl, h1, h2⟩ := DenB.tup (X := X) sg d
      exact ⟨_, sqT_ty h1, kit_ty (r := false) (by decide +kernel)⟩
    | false =>
      obtain ⟨q, vs, rfl, h1, h2⟩ := DenB.list (X := X) sg d
      exact ⟨_, .base (.lst h1), kit_ty (r := true) (by decide +kernel)⟩
theorem ty_qT : ∀ (z : Bool × List α) v G H own, Same G H → DenB X J G H own v (eQ enc z) → ∃ t', TyX X.K H v t' ∧ PySem.W.kitOne X.K t' (.type "tuple") = some ((fun z => z.1) z) :=
  fun z v G H own sg d => by
    obtain ⟨b, xs⟩ := z
    cases b with
    | true =>
      obtain ⟨q, vs, rfl, h1, h2⟩ := DenB.tup (X := X) sg d
      exact ⟨_, sqT_ty h1, kit_ty (r := true) (by decide +kernel)⟩
    | false =>
      obtain ⟨q, vs, rfl, h1, h2⟩ := DenB.list (X := X) sg d
      exact ⟨_, .base (.lst h1), kit_ty (r := false) (by decide +kernel)⟩
/-- list(z) -/
theorem o_listQ {m : M (Bool × List α)} (hm : X.mg "list" = none) (h : PA X [a] (tCons (tE X J S (eQ enc) m) tNil)) (hg : Gl X "list" := by rfl)
    (he : starEach (a :: []) X.env = (false, eval a X.env) :: starEach [] X.env := by rfl) (hpl : (backTo pos (starEach [] X.env)).any (·.1) = false := by rfl) : DO X J S (.Call (.Name "list" p) [a] [] pos) enc (mb m fun z => .ok z.2) :=
  pe_imp (pe_callTy call_list_of hg hm boot_list h (by decide) (by decide) he hpl) fun σ H Q ⟨G, own, ok, fin⟩ => E_bind FinO.wish ok fin fun z v G1 H1 g ok1 d r => by
    obtain ⟨q, vs, rfl, h1, h2⟩ := Den.seq ok1.gh d
    exact ⟨q, vs, rfl, h1, fun l hl => r l vs G1 _ (Grow.allocO ok1.gh hl) hl upd_same (Same.free ok1.gh hl) h2⟩
/-- by the flag -/
theorem i_seq {m : M (Bool × List α)} (h : DE X J S a (eQ enc) m) : DI X J S tg a enc (mb m fun z => .ok z.2) := by
  cases m with
  | no => exact ⟨fun pins s σ H Q I ⟨G, own, ok, fin⟩ => fin.elim⟩
  | er x => exact i_list (m := .er x) (e_enc h ⟨fun z hz => (by cases hz), fun y hy => (by cases hy; rfl)⟩)
  | ok z =>
    obtain ⟨b, xs⟩ := z
    cases b with
    | true => exact i_tup (m := .ok xs) (e_enc h ⟨fun z hz => (by cases hz; exact ⟨_, rfl, rfl⟩), fun y hy => (by cases hy)⟩)
    | false => exact i_list (m := .ok xs) (e_enc h ⟨fun z hz => (by cases hz; exact ⟨_, rfl, rfl⟩), fun y hy => (by cases hy)⟩)
theorem e_ixQ {m : M (Bool × List α)} {mi : M Int} (ha : DE X J S a (eQ enc) m) (hb : DE X J S b eI mi) (hs : PlainIx b := by intro _ _; rfl) : DE X J S (.Subscript a b pos) enc (mb m fun z => mb mi fun i => ixM z.2 i) := by
  cases m with
  | no => exact ⟨fun pins s σ H Q I ⟨G, own, ok, fin⟩ => fin.elim⟩
  | er x => exact e_ixT (m := .er x) (e_enc ha ⟨fun z hz => (by cases hz), fun y hy => (by cases hy; rfl)⟩) hb hs
  | ok z =>
    obtain ⟨b', xs⟩ := z
    cases b' with
    | true => exact e_ixT (m := .ok xs) (e_enc ha ⟨fun z hz => (by cases hz; exact ⟨_, rfl, rfl⟩), fun y hy => (by cases hy)⟩) hb hs
    | false => exact e_ixL (m := .ok xs) (b_e (e_enc ha ⟨fun z hz => (by cases hz; exact ⟨_, rfl, rfl⟩), fun y hy => (by cases hy)⟩)) hb hs
end
end DL

namespace DL
open PySem PySem.Spec PyProof.Rows L2
variable {X : Cx} {J : Jx}
section
variable {α β γ δ ρ : Type} {S S1 : List Sl} {N : β → List Sl} {L : γ → List Sl} {R : ρ → RV} {enc : α → D} {a b c e : Expr} {es : List Expr} {pos p : Pos} {k j : Nat} {rest body : List Stmt}
/-! ### try: .. except B as n: .., B a class above those that come (cs) -/
def tryB {β γ ρ : Type} (cs : List Str) (m : M (Out β γ ρ)) (f : Str → List (Str × D) → M (Out β γ ρ)) : M (Out β γ ρ) := match m with
  | .er x => if x.cls ∈ cs then noEr (f x.cls x.args) else .no
  | .ok o => .ok o
  | .no => .no
@[simp] theorem tryB_ok {β γ ρ : Type} (cs : List Str) (o : Out β γ ρ) (f : Str → List (Str × D) → M (Out β γ ρ)) : tryB cs (.ok o) f = .ok o := rfl
theorem tryB_er {β γ ρ : Type} {cs : List Str} {cn : Str} (h : cn ∈ cs) (a : List (Str × D)) (f : Str → List (Str × D) → M (Out β γ ρ)) : tryB cs (.er ⟨cn, a⟩) f = noEr (f cn a) := if_pos h
theorem ss_tryB {cn n : Str} {i : Nat} {b₀ : Stmt} {suite : List Stmt} {np pos' : Pos} {cs : List Str} {mB : M (Out β γ ρ)} {f : Str → List (Str × D) → M (Out β γ ρ)} (C : CxD X J k) (hs : X.stack = X.env :: X.outer) (hf : X.env.frame = some X.env.locals) (hln : X.env.kindOf n = some .local) (hgl : Gl X cn) (hgm : X.mg cn = some (.ref (J.ca cn)))
    (hem : ∀ c ∈ cs, PySem.W.exmOne X.K (.ref (J.ca c)) (.ref (J.ca cn)) = some true) (hi : X.N[i]? = some n) (hd : (cn == ("__debug__" : Str)) = false)
    (hb : ∀ (W : WX) (pn : List (Addr × Obj)) (xe : Value → Shared → Prop), CxD (X.tr pn xe) ⟨J.ca, W, J.B, S1⟩ k → DSs (X.tr pn xe) ⟨J.ca, W, J.B, S1⟩ S body N L R mB)
    (hsu : ∀ (a : Addr) (oe : Obj) (cls : Value) (d : Option Addr) (pn : List (Addr × Obj)) (args : List (Str × D)), CxS (X.suite a ((a, oe) :: pn)) (js J) k → Zc cls d oe → (∃ vs, oe.data = .fields vs) → ∀ c ∈ cs, cls = .ref (J.ca c) → DSs (X.suite a ((a, oe) :: pn)) (js J) (S1.set i (.xc a d args)) (b₀ :: suite) N L R (f c args))
    (hN : ∀ b, (N b)[i]? = some .un) (hL : ∀ b, (L b)[i]? = some .un) :
    DS X J S (.Try body [.ExceptHandler (some (.Name cn np)) (some n) (b₀ :: suite) pos'] [] [] pos) N L R (tryB cs mB f) := by
  have hA : ∀ (a : Addr) (oe : Obj) (cls : Value) (d : Option Addr) (pn : List (Addr × Obj)), L2N.Zn cls d oe → (∃ vs, oe.data = .fields vs) → CxS (X.suite a ((a, oe) :: pn)) (js J) k := fun a oe cls d pn hz ⟨vs, hv⟩ =>
    ⟨⟨(a, oe), ⟨rfl, vs, hv, hz.2.2 vs hv⟩, List.mem_cons_self⟩, L2H.roomH_mark C.room _, takesN, C.nd⟩
  refine ps_imp (L2N.ps_try_as (Wout := J.W) hs hf C.nd hi hln ⟨hgl, hd, .inl hgm⟩ C.tk
    (tb := fun W => tS X ⟨J.ca, W, J.B, S1⟩ S N L R mB)
    (ts := fun a cls d Dn σ H => ∃ c args, c ∈ cs ∧ cls = .ref (J.ca c) ∧ tS X (js J) (S1.set i (.xc a d args)) N L R (f c args) Dn σ H)
    (fun W pn xe tk po => hb W pn xe ⟨C.calm, tk, po, C.room, C.nd⟩) (fun a oe cls d pn hz hv => ?_)) fun Dn σ H ⟨G, own, ok, fin⟩ => ?_
  · refine ⟨fun pins s σ H D I ⟨c, args, hm, hc, q⟩ => ?_⟩
    exact (hsu a oe cls d pn args (hA a oe cls d pn hz hv) hz.zc hv c hm hc).run pins s σ H D I q
  · refine ⟨G, own, ok, ?_⟩
    cases hmB : mB with
    | ok o =>
      rw [hmB] at fin
      cases o with
      | nx b => exact fin
      | rt r => exact fin
      | bk c => exact fin
      | ct c => exact fin
    | no => rw [hmB] at fin; exact fin
    | er x =>
      rw [hmB] at fin
      intro cls d σ' G' H' own' sg ok' ra
      by_cases hx : x.cls ∈ cs
      · have fin2 : FinS X J N L R Dn G (noEr (f x.cls x.args)) := by
          unfold tryB at fin
          simp only [if_pos hx] at fin
          exact fin
        obtain ⟨hc, hd2⟩ := ra
        refine ⟨true, by rw [hc]; exact hem _ hx, fun _ a hn => ⟨x.cls, x.args, hx, hc, G', own', ok'.setX hd2, ?_⟩, fun z => by cases z⟩
        have fin3 := fin2.mono sg
        cases hfa : f x.cls x.args with
        | no => rw [hfa] at fin3; exact fin3.elim
        | er y => rw [hfa] at fin3; exact fin3.elim
        | ok o =>
          rw [hfa] at fin3
          cases o with
          | nx b => exact fun σ2 G2 H2 own2 s2 k2 => fin3 _ G2 H2 own2 s2 (Ok.unset k2 (hN b))
          | rt r => exact fin3
          | bk c => exact fun σ2 G2 H2 own2 s2 k2 => fin3 _ G2 H2 own2 s2 (Ok.unset k2 (hL c))
          | ct c => exact fun σ2 G2 H2 own2 s2 k2 => fin3 _ G2 H2 own2 s2 (Ok.unset k2 (hL c))
      · unfold tryB at fin
        simp only [if_neg hx] at fin
        exact fin.elim
end
end DL

namespace DL
open PySem PySem.Spec PyProof.Rows L2
variable {X : Cx} {J : Jx}
section
variable {β γ ρ : Type} {S S1 : List Sl} {N : β → List Sl} {L : γ → List Sl} {R : ρ → RV} {b c e : Expr} {es : List Expr} {pos p : Pos} {k j : Nat} {rest body : List Stmt}
/-! ### isinstance(e, c), e the caught exception with fields: the library's kitx_exc -/
def isxM (args : List (Str × D)) (r : Bool) : M Bool := match args with
  | [] => .no
  | _ :: _ => .ok r
@[simp] theorem isxM_cons (x : Str × D) (l : List (Str × D)) (r : Bool) : isxM (x :: l) r = .ok r := rfl
theorem call_isX {a D dd : Addr} {oe : Obj} {pn : List (Addr × Obj)} (C : ExcC X.K D) (hz : Zc (.ref D) (some dd) oe) (hf : ∃ vs, oe.data = .fields vs) :
    CallR (X.suite a ((a, oe) :: pn)) (.builtin "isinstance") (fun xs H Q => ∃ (c : V) (cv : Value) (b : Bool), xs = [.ref a, c] ∧ ClsV c cv ∧ PySem.W.kitOne X.K (.ref D) cv = some b ∧ (∃ fs, H dd = some (.xd fs)) ∧ Q (.bl b) H) := by
  intro pins s σ H xs us Q I r h
  obtain ⟨c, cv, b, rfl, hcv, e, hd, q⟩ := h
  obtain ⟨u1, u2, rfl, r1, r2⟩ := vals2 r
  cases (show u1 = Value.ref a from r1)
  obtain rfl := hcv.eq r2
  have pin := (I.pin (a, oe) (List.mem_append.mpr (.inl List.mem_cons_self))).1
  obtain ⟨fs, hfs⟩ := hd
  obtain ⟨_, ⟨ob, _, _, hob, _⟩, _⟩ := I.hok dd _ hfs
  have J : PySem.W.InstAt s.heap a oe D (some ob) := by
    obtain ⟨oc, od, oda, osl⟩ := oe
    obtain ⟨vs, hv⟩ := hf
    obtain ⟨h1, h2⟩ := hz
    dsimp only at h1 h2 hv
    subst h1 h2 hv
    exact ⟨pin, rfl, rfl, hob⟩
  have cl : (PySem.W.clsIn X.K D).isSome = true := by
    obtain ⟨cd, hc, _⟩ := PySem.W.any_some C.hd
    rw [hc]
    rfl
  exact PySem.W.kia_one (PySem.W.kitx_exc cl C.hg C.hk C.hs C.ha C.hn C.ht C.hm) I.kIn J e (fun z => nomatch z) fun tk => ⟨.bl b, H, I.tok tk, rfl, q⟩
theorem e_isX {t : Expr} {x : Str} {px : Pos} {a Da : Addr} {oe : Obj} {cls : Value} {d : Option Addr} {pn : List (Addr × Obj)} {args : List (Str × D)} {cv : V} {u : Value} {r : Bool} {i : Nat} (C : ExcC X.K Da) (hm : X.mg "isinstance" = none)
    (hz : Zc cls d oe) (hf : ∃ vs, oe.data = .fields vs) (hc : cls = .ref Da) (hs : S[i]? = some (.xc a d args)) (hp : PE (X.suite a ((a, oe) :: pn)) (.Name x px) (tVar i)) (hcv : ClsV cv u) (hk : PySem.W.kitOne X.K (.ref Da) u = some r)
    (ht : PE (X.suite a ((a, oe) :: pn)) t (tC cv)) (hg : Gl (X.suite a ((a, oe) :: pn)) "isinstance" := by rfl) (he1 : starEach [t] X.env = (false, eval t X.env) :: starEach [] X.env := by rfl)
    (he : starEach ((.Name x px) :: [t]) X.env = (false, eval (.Name x px) X.env) :: starEach [t] X.env := by rfl) (hpl : (backTo pos (starEach [t] X.env)).any (·.1) = false := by rfl) :
    DE (X.suite a ((a, oe) :: pn)) J S (.Call (.Name "isinstance" p) [.Name x px, t] [] pos) eB (isxM args r) := by
  cases args with
  | nil => exact ⟨fun pins s σ H Q I ⟨G, own, ok, fin⟩ => fin.elim⟩
  | cons y l =>
    refine ⟨fun pins s σ H Q I ⟨G, own, ok, fin⟩ => ?_⟩
    obtain ⟨h1, h2⟩ := ok.sl i _ hs
    rcases h2 with h2 | ⟨dd, vs, h2, h3, h4⟩
    · cases h2
    subst h2 hc
    exact (pe_callB (call_isX C hz hf) hg hm PyProof.Rows.boot_isinstance (pa_cons hp (pa_cons ht pa_nil he1) he) (by decide) (by decide) he hpl).run pins s σ H Q I ⟨.ref a, h1, cv, u, r, rfl, hcv, hk, ⟨_, h3⟩, fin _ G H (Grow.refl ok.gh) (.bl r)⟩
/-! ### try: .. except B as n: .., one class c under B that comes -/
theorem tryB_one {c : Str} {m : M (Out β γ ρ)} {f : List (Str × D) → M (Out β γ ρ)} : tryB [c] m (fun _ a => f a) = tryM c m f := by
  cases m with
  | ok o => rfl
  | no => rfl
  | er x => simp only [tryB, tryM, List.mem_singleton]
theorem ss_tryS {cn cb n : Str} {i : Nat} {b₀ : Stmt} {suite : List Stmt} {np pos' : Pos} {mB : M (Out β γ ρ)} {f : List (Str × D) → M (Out β γ ρ)} (C : CxD X J k) (hs : X.stack = X.env :: X.outer) (hf : X.env.frame = some X.env.locals) (hln : X.env.kindOf n = some .local) (hgl : Gl X cb) (hgm : X.mg cb = some (.ref (J.ca cb)))
    (hem : PySem.W.exmOne X.K (.ref (J.ca cn)) (.ref (J.ca cb)) = some true) (hi : X.N[i]? = some n) (hd : (cb == ("__debug__" : Str)) = false)
    (hb : ∀ (W : WX) (pn : List (Addr × Obj)) (xe : Value → Shared → Prop), CxD (X.tr pn xe) ⟨J.ca, W, J.B, S1⟩ k → DSs (X.tr pn xe) ⟨J.ca, W, J.B, S1⟩ S body N L R mB)
    (hsu : ∀ (a : Addr) (oe : Obj) (cls : Value) (d : Option Addr) (pn : List (Addr × Obj)) (args : List (Str × D)), CxS (X.suite a ((a, oe) :: pn)) (js J) k → Zc cls d oe → (∃ vs, oe.data = .fields vs) → cls = .ref (J.ca cn) → DSs (X.suite a ((a, oe) :: pn)) (js J) (S1.set i (.xc a d args)) (b₀ :: suite) N L R (f args))
    (hN : ∀ b, (N b)[i]? = some .un) (hL : ∀ b, (L b)[i]? = some .un) :
    DS X J S (.Try body [.ExceptHandler (some (.Name cb np)) (some n) (b₀ :: suite) pos'] [] [] pos) N L R (tryM cn mB f) := by
  rw [← tryB_one]
  exact ss_tryB C hs hf hln hgl hgm (fun c hc => by rw [List.mem_singleton.mp hc]; exact hem) hi hd hb (fun a oe cls d pn args Ch hz hv c hc he => hsu a oe cls d pn args Ch hz hv (by rw [he, List.mem_singleton.mp hc])) hN hL
end
end DL

namespace DL
open PySem PySem.Spec PyProof.Rows L2
variable {X : Cx} {J : Jx}
section
variable {α β γ ρ : Type} {S : List Sl} {enc : α → D} {tg a b c e : Expr} {es : List Expr} {pos p : Pos} {k j : Nat}
/-! ### range(i, j, -1) -/
theorem pe_m1 {e : Expr} (h : PE X e (tC (.int 1))) : PE X (.UnaryOp .USub e pos) (tC (.int (-1))) := pe_imp (pe_un un_neg h) fun σ H Q q => ⟨1, rfl, q⟩
def rngD (i j : Int) : List Int := (List.range (i - j).toNat).map fun (q : Nat) => i - (q : Int)
def rngDM (i j : Int) : M (List Int) := if okI i && okI j then .ok (rngD i j) else .no
def rngDL (i j : Int) : M (List Int) := if okI i && okI j && decide ((i - j).toNat ≤ line) then .ok (rngD i j) else .no
theorem rngD_len (i j : Int) : (rngD i j).length = (i - j).toNat := by unfold rngD; rw [List.length_map, List.length_range]
theorem rngD_get {i j : Int} {q : Nat} (h : q < (i - j).toNat) : (rngD i j)[q]? = some (i - q) := by
  unfold rngD; rw [List.getElem?_map, List.getElem?_range h]; rfl
theorem itd_ok {G : Hp} {i j : Int} : ItOk X J G (Itc i (-1) (i - j).toNat) ((rngD i j).map eI) := fun q H2 G2 s0 s1 s2 => by
  refine ⟨fun d hd => ?_, fun hl => ?_⟩
  · have hq : q < (i - j).toNat := by
      have := (List.getElem?_eq_some_iff.mp hd).1
      rwa [List.length_map, rngD_len] at this
    rw [List.getElem?_map, rngD_get hq] at hd
    cases hd
    refine ⟨hq, fun x H3 ⟨e1, e2⟩ => ⟨G2, by rw [e1]; exact Grow.refl s2, ?_⟩⟩
    have e3 : i + (q : Int) * -1 = i - q := by omega
    rw [e2, e3]
    exact .int _
  · rw [List.length_map, rngD_len] at hl
    exact hl
theorem i_rngD {ma mb' : M Int} (hg : Gl X "range") (hm : X.mg "range" = none) (ha : PA X [a, b, c] (tCons (tE X J S eI ma) (tCons (tE X J S eI mb') (tCons (tC (.int (-1))) tNil))))
    (hs : starEach [a, b, c] X.env = (false, eval a X.env) :: starEach [b, c] X.env := by rfl) (hpl : (backTo pos (starEach [b, c] X.env)).any (·.1) = false := by rfl) :
    DI X J S tg (.Call (.Name "range" p) [a, b, c] [] pos) eI (mb ma fun i => mb mb' fun j => rngDM i j) :=
  pi_imp (pi_range3 hg hm ha hs hpl) fun σ H Q ⟨G, own, ok, fin⟩ =>
    E_bind FinI.wish ok fin fun i v G1 H1 g ok1 d r => E_bind FinI.wish ok1 r fun j u G2 H2 g2 ok2 d2 r => by
      cases d
      cases d2
      unfold rngDM at r
      split at r
      · rename_i h
        simp only [okI, Bool.and_eq_true, decide_eq_true_eq] at h
        exact ⟨i, j, -1, _, rfl, RgC.neg h.1.1 h.1.2 h.2.1 h.2.2, r _ G2 H2 (Grow.refl ok2.gh) itd_ok⟩
      · exact r.elim
/-- list(range(i, j, -1)) -/
theorem DenL.rngD {K : PySem.W.Frag} {ca : Str → Addr} {G : Hp} (i j : Int) : DenL K ca G ((rngD i j).map V.int) ((rngD i j).map eI) := DL.DenL.of_ints _
theorem vals_down {i : Int} {acc : Array Value} {n : Nat} (h : ItemsOf (fun q v => ∃ t, v = .int (i + q * (-1)) t) acc n) : Vals ((List.range n).map fun (q : Nat) => V.int (i - q)) acc.toList := by
  have e : acc.toList.length = n := by rw [Array.length_toList]; exact h.1
  rw [← e]
  refine vals_of_get acc.toList _ fun q u hq => ?_
  obtain ⟨t, rfl⟩ := h.2 q u (by rw [← hq, Array.getElem?_toList])
  exact ⟨t, by have e3 : i + (q : Int) * -1 = i - q := by omega
               rw [e3]⟩
theorem o_rngD {ma mb' : M Int} {p2 pos2 : Pos} (hc : X.calm = true) (hm : X.mg "list" = none) (hm2 : X.mg "range" = none) (ha : PA X [a, b, c] (tCons (tE X J S eI ma) (tCons (tE X J S eI mb') (tCons (tC (.int (-1))) tNil)))) (hg : Gl X "list" := by rfl) (hg2 : Gl X "range" := by rfl)
    (hs : starEach [a, b, c] X.env = (false, eval a X.env) :: starEach [b, c] X.env := by rfl) (hpl : (backTo pos2 (starEach [b, c] X.env)).any (·.1) = false := by rfl)
    (nb : starEach [Expr.Call (.Name "range" p2) [a, b, c] [] pos2] X.env = (false, eval (.Call (.Name "range" p2) [a, b, c] [] pos2) X.env) :: starEach [] X.env := by rfl) :
    DO X J S (.Call (.Name "list" p) [.Call (.Name "range" p2) [a, b, c] [] pos2] [] pos) eI (mb ma fun i => mb mb' fun j => rngDL i j) := by
  refine ⟨fun pins s σ H Q I ⟨G, own, ok, fin⟩ => ?_⟩
  refine Call_ (ld_blt I hg hm boot_list (PyProof.Rows.callWith_type1 (args_cons (Call_ (ld_blt I hg2 hm2 boot_range (PyProof.Rows.callWith_type1 (thn (ha.run pos2 pins s σ H
    (fun vs H2 => ∃ (i j : Int) (G2 : Hp), vs = [.int i, .int j, .int (-1)] ∧ OkX X J G2 H2 own σ S ∧ FinO X J eI (rngDL i j) σ G2 H2 Q) I ?_) fun us s1 ⟨vs, H1, I1, r1, q1⟩ => ?_) hs hpl))) nb) nb))
  · exact E_bind FinO.wish ok fin fun i v G1 H1 g ok1 d r => E_bind FinO.wish ok1 r fun j u G2 H2 g2 ok2 d2 r => by
      cases d
      cases d2
      exact ⟨i, j, G2, rfl, ok2, r⟩
  · obtain ⟨i, j, G2, rfl, ok2, r⟩ := q1
    unfold rngDL at r
    split at r
    · rename_i h
      simp only [okI, Bool.and_eq_true, decide_eq_true_eq] at h
      cases r1 with
      | cons ra rr =>
        cases rr with
        | cons rb rr =>
          cases rr with
          | cons rc rr =>
            cases rr
            obtain ⟨t1, rfl⟩ := ra
            obtain ⟨t2, rfl⟩ := rb
            obtain ⟨t3, rfl⟩ := rc
            refine call_range_3 (by decide) (args_nil ?_) (.inl (PyProof.noPylong_small (by decide)))
            have I2 : Inv X pins σ H1 { s1 with heap := s1.heap.push { cls := .type "range", data := .fields #[.int i t1, .int j t2, .int (-1) t3] } } := I1.kept (t' := s1.toks) fun b o e => Heap.get?_push_of_some _ e
            have hN : (i - j).toNat ≤ 2 ^ 24 := Nat.le_trans h.2 (by decide)
            refine call_list_range (n := (i - j).toNat) (I2.ok.hd hc) (IsRange.new ..) (PySem.W.small_down h.1.1.1 h.1.1.2 h.1.2.1 h.1.2.2) (PySem.W.rangeSize_downNat i j) hN fun h' tk acc c' hk e' hi => ?_
            have hq := I2.hok.fresh (Nat.le_refl _)
            refine ⟨.ref _, _, I2.laid (t' := tk) hk (Nat.le_refl _) (show ObjOk X.prog X.w _ _ _ (.lst ((rngD i j).map V.int)) from ⟨?_, acc.toList, c', ?_, ?_⟩), rfl, r _ _ G2 _ (Grow.allocO ok2.gh hq) hq upd_same (Same.free ok2.gh hq) (DenL.rngD i j)⟩
            · rw [List.length_map, rngD_len]
              exact Nat.le_trans h.2 (by decide)
            · have z := vals_down hi
              unfold rngD
              rw [List.map_map]
              exact z
            · rw [Array.toArray_toList]
              exact e'
    · exact r.elim
/-! ### reversed(xs) -/
theorem itv_ok {G : Hp} {l : Addr} {vs : List V} {xs : List α} (hq : ∀ H2 G2 : Hp, Same G G2 → Same G2 H2 → SqL X.K H2 l vs) (hd : DenL X.K J.ca G vs (xs.map enc)) : ItOk X J G (Itv X.K l vs.length) (xs.reverse.map enc) := fun i H2 G2 s0 s1 s2 => by
  have hl := hd.length
  rw [List.length_map] at hl
  refine ⟨fun d h => ?_, fun h => ?_⟩
  · have hi : i < xs.length := by
      have := (List.getElem?_eq_some_iff.mp h).1
      rwa [List.length_map, List.length_reverse] at this
    rw [List.getElem?_map, List.getElem?_reverse hi, ← List.getElem?_map] at h
    obtain ⟨x, e1, e2⟩ := hd.get h
    have q := hq H2 G2 s1 s2
    rw [← hl] at e1
    refine ⟨⟨by omega, vs, x, q, e1⟩, fun y H3 ⟨e3, e4⟩ => ⟨G2, by rw [e3]; exact Grow.refl s2, ?_⟩⟩
    have := e4 vs q
    rw [e1] at this
    cases this
    exact e2.mono s1
  · rw [List.length_map, List.length_reverse] at h
    show vs.length ≤ i
    omega
theorem i_rev {m : M (List α)} (hg : Gl X "reversed") (hm : X.mg "reversed" = none) (h : PA X [e] (tCons (tE X J S (eL enc) m) tNil)) (hs : starEach [e] X.env = [(false, eval e X.env)] := by rfl) :
    DI X J S tg (.Call (.Name "reversed" p) [e] [] pos) enc (mb m fun xs => .ok xs.reverse) :=
  pi_imp (pi_reversed hg hm h hs) fun σ H Q ⟨G, own, ok, fin⟩ => E_bind FinI.wish ok fin fun xs v G1 H1 g ok1 d r => by
    obtain ⟨l, vs, rfl, h1, h2⟩ := Den.lst' d
    exact ⟨l, vs, rfl, SqL.of (ok1.gh _ _ h1), r _ G1 H1 (Grow.refl ok1.gh) (itv_ok (fun H2 G2 s1 s2 => SqL.of (s2 _ _ (s1 _ _ h1))) h2)⟩
/-! ### sorted(set(z)), a list or a tuple -/
theorem seqI_Q : SeqI X J (eQ eI) (fun z => z.2) := fun z v G H own sg d => by
  obtain ⟨b, xs⟩ := z
  cases b with
  | true => exact seqI_T xs v G H own sg d
  | false => exact seqI_L xs v G H own sg d
theorem e_pl3 {m : M (α × α × α)} (h : DE X J S a (eP3 enc enc enc) m) : DE X J S a (eT enc) (mb m fun x => .ok [x.1, x.2.1, x.2.2]) := e_conv (fun x => [x.1, x.2.1, x.2.2]) h fun _ => rfl
/-! ### an own class, a class above it -/
theorem kit_own {K : PySem.W.Frag} {C E : Addr} {b : Bool} (h0 : PySem.W.subIn K (.ref C) (.ref C) = some true) (h1 : PySem.W.isClsIn K E = true) (h2 : PySem.W.typeIn K (.ref E) = some (.type "type")) (h3 : PySem.W.subIn K (.ref C) (.ref E) = some b) : PySem.W.kitOne K (.ref C) (.ref E) = some b := by
  unfold PySem.W.kitOne
  by_cases q : C = E
  · subst q
    rw [if_pos (beq_self_eq_true _), ← h0, h3]
  · rw [if_neg (fun z => q (Value.ref.inj (beq_iff_eq.mp z)))]
    have e : ((PySem.W.clsIn K E).isSome && PySem.W.typeIn K (.ref E) == some (.type "type")) = true := by
      have z : (PySem.W.clsIn K E).isSome = true := h1
      rw [h2, z] <;> rfl
    show (if _ = true then _ else _) = _
    rw [if_pos e]
    exact h3
theorem kit_blt {K : PySem.W.Frag} {C : Addr} {T : String} {b : Bool} (h1 : PySem.W.kitMeta T = true) (h3 : PySem.W.subIn K (.ref C) (.type T) = some b) : PySem.W.kitOne K (.ref C) (.type T) = some b := by
  unfold PySem.W.kitOne
  rw [if_neg (fun z => by cases beq_iff_eq.mp z)]
  show (if _ = true then _ else _) = _
  rw [if_pos h1]
  exact h3
end
end DL

namespace DL
open PySem PySem.Spec PyProof.Rows L2
variable {X : Cx} {J : Jx}
section
variable {α β γ ρ : Type} {S : List Sl} {enc : α → D} {tg a b c e : Expr} {es : List Expr} {pos p : Pos} {k j : Nat}
/-! ### a thing that is not None here -/
def unO : Option α → M α
  | some x => .ok x
  | none => .no
@[simp] theorem unO_some (x : α) : unO (some x) = .ok x := rfl
theorem e_unO {m : M (Option α)} (h : DE X J S a (eO enc) m) : DE X J S a enc (mb m unO) := e_enc h (by
  cases m with
  | ok y =>
    cases y with
    | some x => exact ⟨fun z hz => ⟨some x, rfl, by cases hz; rfl⟩, fun x hx => by cases hx⟩
    | none => exact ⟨fun z hz => (by cases hz), fun x hx => (by cases hx)⟩
  | er x => exact ⟨fun z hz => (by cases hz), fun y hy => (by cases hy; rfl)⟩
  | no => exact ⟨fun z hz => (by cases hz), fun y hy => (by cases hy)⟩)
end
end DL

namespace DL
open PySem PySem.Spec PyProof.Rows L2
variable {X : Cx} {J : Jx}
section
variable {α β γ ρ : Type} {S : List Sl} {enc : α → D} {enb : β → D} {enc3 : γ → D} {tg a b c e : Expr} {es : List Expr} {pos p : Pos} {k j : Nat}
/-! ### optional things: equality, isinstance -/
def pdO (pd : α → PyData) : Option α → PyData
  | none => .none
  | some x => pd x
theorem pd_opt {pd : α → PyData} {n : Nat} (h : PdE enc pd n) (h1 : ∀ x, PyData.eqv (pd x) .none = false) (h2 : ∀ x, PyData.eqv .none (pd x) = false) : PdE (eO enc) (pdO pd) (n + 1) := by
  refine ⟨fun {K ca G H v x} sg d => ?_, fun x => ?_, fun x => ?_, fun x y => ?_⟩
  · cases x with
    | none => cases d; exact .non
    | some x => exact h.dp sg d
  · cases x with
    | none => rfl
    | some x => exact h.lay x
  · cases x with
    | none => simp [pdO, PyData.depth]
    | some x => exact Nat.le_succ_of_le (h.dep x)
  · cases x with
    | none =>
      cases y with
      | none => simp [pdO, PyData.eqv]
      | some y => simp [pdO, h2]
    | some x =>
      cases y with
      | none => simp [pdO, h1]
      | some y =>
        show PyData.eqv (pd x) (pd y) = true ↔ _
        rw [h.eq]
        simp
theorem pd_P3 {pd : α → PyData} {n : Nat} {pe : β → PyData} {m : Nat} {pf : γ → PyData} {l : Nat} (h : PdE enc pd n) (h' : PdE enb pe m) (h'' : PdE enc3 pf l) : PdE (eP3 enc enb enc3) (fun p => .tuple [pd p.1, pe p.2.1, pf p.2.2]) (max n (max m l) + 1) := by
  refine ⟨fun sg d => ?_, fun x => ?_, fun x => ?_, fun x y => ?_⟩
  · cases d with
    | tup q t =>
      cases t with
      | cons t1 t =>
        cases t with
        | cons t2 t =>
          cases t with
          | cons t3 t => cases t; exact .tup (same_seqT sg q) (.cons (h.dp sg t1) (.cons (h'.dp sg t2) (.cons (h''.dp sg t3) .nil)))
  · show (PyData.canLayAll0 [pd x.1, pe x.2.1, pf x.2.2]) = true
    rw [PyData.canLayAll0, PyData.canLayAll0, PyData.canLayAll0, h.lay, h'.lay, h''.lay]; rfl
  · simp only [PyData.depth, PyData.depthAll]
    have h1 := h.dep x.1
    have h2 := h'.dep x.2.1
    have h3 := h''.dep x.2.2
    omega
  · rw [PyData.eqv, PyData.eqvAll, PyData.eqvAll, PyData.eqvAll, PyData.eqvAll, Bool.and_true, Bool.and_eq_true, Bool.and_eq_true, h.eq, h'.eq, h''.eq, Prod.ext_iff, Prod.ext_iff]
theorem DenB.tupD {G H : Hp} {own : Addr → Option Nat} {v : V} {ds : List D} (sg : Same G H) (d : DenB X J G H own v (.tup ds)) : ∃ q vs, v = .ref q ∧ SqT X.K H q vs := by
  rcases d with d | ⟨_, _, _, _, h, _⟩
  · cases d with
    | tup q t => exact ⟨_, _, rfl, same_seqT sg q⟩
  · cases h
theorem ty_P {T : String} {r : Bool} {ds : α → List D} (hd : ∀ z, enc z = .tup (ds z)) (h : kitB "tuple" T = some r) : ∀ (z : α) v G H own, Same G H → DenB X J G H own v (enc z) → ∃ t', TyX X.K H v t' ∧ PySem.W.kitOne X.K t' (.type T) = some ((fun _ => r) z) :=
  fun z v G H own sg d => by
    rw [hd z] at d
    obtain ⟨q, vs, rfl, h1⟩ := DenB.tupD sg d
    exact ⟨_, sqT_ty h1, kit_ty h⟩
theorem ty_opt {u : Value} {T : String} {r r0 : Bool} (hu : u = .type T) (h : ∀ (z : α) v G H own, Same G H → DenB X J G H own v (enc z) → ∃ t', TyX X.K H v t' ∧ PySem.W.kitOne X.K t' u = some ((fun _ => r) z)) (h0 : kitB "NoneType" T = some r0) :
    ∀ (z : Option α) v G H own, Same G H → DenB X J G H own v (eO enc z) → ∃ t', TyX X.K H v t' ∧ PySem.W.kitOne X.K t' u = some ((fun z => if z.isSome = true then r else r0) z) :=
  fun z v G H own sg d => by
    cases z with
    | some x => exact h x v G H own sg d
    | none =>
      subst hu
      rcases d with d | ⟨_, _, _, _, h, _⟩
      · cases d
        exact ⟨_, .base .non, kit_ty h0⟩
      · cases h
theorem ty_HL {T : String} {r : Bool} {ds : α → List D} (hd : ∀ z, enc z = .lst (ds z)) (h : kitB "list" T = some r) : ∀ (z : α) v G H own, Same G H → DenB X J G H own v (enc z) → ∃ t', TyX X.K H v t' ∧ PySem.W.kitOne X.K t' (.type T) = some ((fun _ => r) z) :=
  fun z v G H own sg d => by
    rw [hd z] at d
    obtain ⟨q, vs, rfl, h1, h2⟩ := DenB.list sg d
    exact ⟨_, .base (.lst h1), kit_ty h⟩
/-- len of a tuple of a written length -/
theorem e_lenP {n : Int} {ds : α → List D} {m : M α} (hd : ∀ z, enc z = .tup (ds z)) (hl : ∀ z, ((ds z).length : Int) = n) (hm : X.mg "len" = none) (h : PA X [a] (tCons (tE X J S enc m) tNil)) (hg : Gl X "len" := by rfl)
    (he : starEach (a :: []) X.env = (false, eval a X.env) :: starEach [] X.env := by rfl) (hpl : (backTo pos (starEach [] X.env)).any (·.1) = false := by rfl) : DE X J S (.Call (.Name "len" p) [a] [] pos) eI (mb m fun _ => .ok n) :=
  pe_imp (pe_callB call_len_seq hg hm PySem.boot_len h (by decide) (by decide) he hpl) fun σ H Q ⟨G, own, ok, fin⟩ => E_bind Fin.wish ok fin fun z v G1 H1 g ok1 d r => by
    rw [hd z] at d
    obtain ⟨q, vs, rfl, h1, h2⟩ := Den.tuple (X := X) ok1.gh d
    refine ⟨q, vs, rfl, .inr h1, ?_⟩
    have e := hl z
    rw [← h2.length] at e
    rw [e]
    exact r _ G1 H1 (Grow.refl ok1.gh) (.int _)
end
end DL

namespace DL
open PySem PySem.Spec PyProof.Rows L2
variable {X : Cx} {J : Jx}
/-! ### a dict of a slot's own: keys are ints, values are plain -/
structure Vd {α : Type} (enc : α → D) (vd : α → V) : Prop where
  den : ∀ {K : PySem.W.Frag} {ca : Str → Addr} {G : Hp} (z : α), Den K ca G (vd z) (enc z)
  inv : ∀ {K : PySem.W.Frag} {ca : Str → Addr} {G : Hp} {v : V} {z : α}, Den K ca G v (enc z) → v = vd z
theorem vd_int : Vd eI V.int := ⟨fun z => .int z, fun d => by cases d; rfl⟩
theorem vd_bl : Vd eB V.bl := ⟨fun z => .bl z, fun d => by cases d; rfl⟩
section
variable {α : Type}
def kvV (vd : α → V) (kvs : List (Int × α)) : List (Int × V) := kvs.map fun kv => (kv.1, vd kv.2)
def hkV (kvs : List (Int × V)) : List (Key × V) := kvs.map fun kv => (Sum.inl kv.1, kv.2)
def putA (kvs : List (Int × α)) (k : Int) (z : α) : List (Int × α) := if (kvs.any fun kv => decide (kv.1 = k)) = true then kvs.map (fun kv => if kv.1 = k then (kv.1, z) else kv) else kvs ++ [(k, z)]
def getA (kvs : List (Int × α)) (k : Int) : Option α := (kvs.find? fun kv => decide (kv.1 = k)).map (·.2)
def putM (kvs : List (Int × α)) (k : Int) (z : α) : M (List (Int × α)) := if kvs.length < line then .ok (putA kvs k z) else .no
def getM (kvs : List (Int × α)) (k : Int) : M α := match getA kvs k with
  | some z => .ok z
  | none => .no
theorem get_hk (vd : α → V) (k : Int) : ∀ kvs : List (Int × α), valV (hkV (kvV vd kvs)) (Sum.inl k) = (getA kvs k).map vd
  | [] => rfl
  | p :: r => by
    have ih := get_hk vd k r
    unfold valV getA hkV kvV at *
    rw [List.map_cons, List.map_cons, List.find?_cons, List.find?_cons]
    by_cases e : p.1 = k
    · simp [e]
    · simp only [Sum.inl.injEq, e, decide_false]
      exact ih
theorem put_hk (vd : α → V) (k : Int) (z : α) (kvs : List (Int × α)) : putK (hkV (kvV vd kvs)) (Sum.inl k) (vd z) = hkV (kvV vd (putA kvs k z)) := by
  unfold putK putA hkV kvV
  have e : (((kvs.map fun kv => (kv.1, vd kv.2)).map fun kv => ((Sum.inl kv.1 : Key), kv.2)).any fun kv => decide (kv.1 = Sum.inl k)) = kvs.any fun kv => decide (kv.1 = k) := by
    rw [List.any_map, List.any_map]
    congr 1
    funext kv
    simp
  rw [e]
  by_cases q : (kvs.any fun kv => decide (kv.1 = k)) = true
  · rw [if_pos q, if_pos q, List.map_map, List.map_map, List.map_map, List.map_map]
    refine List.map_congr_left fun kv _ => ?_
    simp only [Function.comp, Sum.inl.injEq]
    by_cases h : kv.1 = k
    · simp [h]
    · simp [h]
  · rw [if_neg q, if_neg q, List.map_append, List.map_append]
    rfl
theorem hk_len (vd : α → V) (kvs : List (Int × α)) : (hkV (kvV vd kvs)).length = kvs.length := by unfold hkV kvV; rw [List.length_map, List.length_map]
end
section
variable {α β β' γ δ ρ : Type} {S S' : List Sl} {N : β → List Sl} {L : γ → List Sl} {R : ρ → RV} {enc : α → D} {vd : α → V} {a b c e tg : Expr} {es : List Expr} {pos p : Pos} {k j : Nat} {rest body : List Stmt}
theorem Ok.fresh {G H : Hp} {own : Addr → Option Nat} {σ : L2.St} {p : Addr} (ok : OkX X J G H own σ S) (hp : H p = none) : own p = none := by
  cases h : own p with
  | none => rfl
  | some i => exact absurd hp (ok.ow p i h).2.2
/-- x = {} -/
theorem ss_dnew {m : M (Out β γ ρ)} {x : Str} {pd px : Pos} {i : Nat} (hN : X.N.Nodup) (hr : DSs X J (S.set i (.dk [])) rest N L R m) (hi : X.N[i]? = some x := by rfl) (hx : Loc X.env.scope x := by first | exact Or.inl rfl | exact Or.inr rfl)
    (hs : swapsWith (.Dict [] [] pd) (some (.Name x px)) pos.line X.env = pure false := by rfl) (hf : X.fn x = true ∨ X.env.scope.names.lookup x = some .local := by first | exact .inl rfl | exact .inr rfl) :
    DSs X J S (.Assign [.Name x px] (.Dict [] [] pd) pos :: rest) N L R m :=
  pss_imp (pss_cons (ps_set (i := i) hN hi hx pe_dnewK hs hf) hr) fun Dn σ H ⟨G, own, ok, fin⟩ => fun q hq => by
    have ok1 := ok.grow (Grow.allocO (o := .dK []) ok.gh hq)
    exact ⟨G, _, ok1.setK (kvs := []) upd_same (Same.free ok.h0 hq) (Same.free ok.gh hq) (Ok.fresh ok hq), fin⟩
/-- x[k] = e -/
theorem ss_dput {m : M α} {mi : M Int} {f : List (Int × α) → M (Out β γ ρ)} {kvs : List (Int × α)} {x : Str} {ie : Expr} {px p2 : Pos} (hv : Vd enc vd) (C : CxD X J k) (i : Nat) (hs : S[i]? = some (.dk (kvV vd kvs))) (hp : PE X (.Name x px) (tVar i)) (he : DE X J S e enc m) (hi : DE X J S ie eI mi)
    (hr : ∀ ys, DSs X J (S.set i (.dk (kvV vd ys))) rest N L R (f ys)) (hw : Wk S J.Sx)
    (hsw : swapsWith e (some (.Subscript (.Name x px) ie p2)) pos.line X.env = pure false := by rfl) :
    DSs X J S (.Assign [.Subscript (.Name x px) ie p2] e pos :: rest) N L R (mb m fun z => mb mi fun j => mb (putM kvs j z) f) :=
  pss_imp (pss_cons (ps_dput (by have := C.room.units; omega) hp hi he hsw) (pss_ex hr)) fun Dn σ H ⟨G, own, ok, fin⟩ => by
    refine E_bind (FinS.wish hw) ok ⟨fin, ok⟩ fun z v G1 H1 g1 ok1 d r => ?_
    obtain ⟨q, q1, q2, q3⟩ := ok1.sl i _ hs
    refine ⟨.ref q, q1, E_bind (FinS.wish hw) ok1 r fun y u G2 H2 g2 ok2 d2 r2 => ?_⟩
    cases d2
    have hq : H2 q = some (.dK (hkV (kvV vd kvs))) := g2.h _ _ q3
    have ev := hv.inv d
    subst ev
    have r3 := r2.1
    unfold putM at r3
    split at r3
    · rename_i hl
      refine ⟨q, _, rfl, DPut.k (k := Sum.inl y) hq (by rw [hk_len]; exact Nat.lt_of_lt_of_le hl line_le), _, G2, own, ?_, r3⟩
      rw [put_hk]
      exact ok2.mutK (kvs := kvV vd (putA kvs y z)) hq q2 q1
    · exact r3.elim
/-- x[k] -/
theorem e_dget {mi : M Int} {kvs : List (Int × α)} {x : Str} {ie : Expr} {px : Pos} (hv : Vd enc vd) (C : CxD X J k) (i : Nat) (hs : S[i]? = some (.dk (kvV vd kvs))) (hp : PE X (.Name x px) (tVar i)) (hi : DE X J S ie eI mi) (hn : NoSl ie := by intro _ _; rfl) :
    DE X J S (.Subscript (.Name x px) ie pos) enc (mb mi fun j => getM kvs j) :=
  pe_imp (pe_dget (by have := C.room.units; omega) hp hi hn) fun σ H Q ⟨G, own, ok, fin⟩ => by
    obtain ⟨q, q1, q2, q3⟩ := ok.sl i _ hs
    refine ⟨.ref q, q1, E_bind Fin.wish ok fin fun y u G2 H2 g2 ok2 d2 r2 => ?_⟩
    cases d2
    have hq : H2 q = some (.dK (hkV (kvV vd kvs))) := g2.h _ _ q3
    have dg := DGet.k (k := Sum.inl y) hq
    rw [get_hk] at dg
    unfold getM at r2
    cases hg : getA kvs y with
    | none => rw [hg] at r2; exact r2.elim
    | some z =>
      rw [hg] at r2 dg
      exact ⟨q, vd z, rfl, dg, r2 _ G2 H2 (Grow.refl ok2.gh) (hv.den z)⟩
/-- x.get(k, y) -/
theorem e_dget2 {mi : M Int} {m : M α} {kvs : List (Int × α)} {x : Str} {ie : Expr} {px ap : Pos} (hv : Vd enc vd) (C : CxD X J k) (i : Nat) (hs : S[i]? = some (.dk (kvV vd kvs))) (hp : PE X (.Name x px) (tVar i)) (hi : DE X J S ie eI mi) (he : DE X J S e enc m) (hm : M2 X (.Name x px) "get" ap ie e pos := by exact ⟨rfl, rfl, rfl, rfl⟩) :
    DE X J S (.Call (.Attribute (.Name x px) "get" ap) [ie, e] [] pos) enc (mb mi fun j => mb m fun z => .ok ((getA kvs j).getD z)) :=
  pe_imp (pe_dget2 (by have := C.room.units; omega) hp hi he hm) fun σ H Q ⟨G, own, ok, fin⟩ => by
    obtain ⟨q, q1, q2, q3⟩ := ok.sl i _ hs
    refine ⟨.ref q, q1, q, rfl, .inl ⟨_, .inl q3⟩, E_bind Fin.wish ok fin fun y u G2 H2 g2 ok2 d2 r2 => E_bind Fin.wish ok2 r2 fun z w G3 H3 g3 ok3 d3 r3 => ?_⟩
    cases d2
    have hq : H3 q = some (.dK (hkV (kvV vd kvs))) := g3.h _ _ (g2.h _ _ q3)
    have dg := DGet.k (k := Sum.inl y) hq
    rw [get_hk] at dg
    have ev := hv.inv d3
    subst ev
    refine ⟨_, dg, r3 _ G3 H3 (Grow.refl ok3.gh) ?_⟩
    cases getA kvs y with
    | none => exact hv.den z
    | some y' => exact hv.den y'
/-- k in x, k not in x -/
theorem e_din {mi : M Int} {kvs : List (Int × α)} {x : Str} {ie : Expr} {px : Pos} (C : CxD X J k) (i : Nat) (hs : S[i]? = some (.dk (kvV vd kvs))) (hp : PE X (.Name x px) (tVar i)) (hi : DE X J S ie eI mi) (hb : behindInMarks .In (.Name x px) = false := by rfl) :
    DE X J S (.Compare ie [.In] [.Name x px] pos) eB (mb mi fun j => .ok (getA kvs j).isSome) :=
  pe_imp (pe_cmp (pc_din (by have := C.room.units; omega) hi hp) hb) fun σ H Q ⟨G, own, ok, fin⟩ => E_bind Fin.wish ok fin fun y u G2 H2 g2 ok2 d2 r2 => by
    cases d2
    obtain ⟨q, q1, q2, q3⟩ := ok2.sl i _ hs
    have dg := DGet.k (k := Sum.inl y) q3
    have e := get_hk vd y kvs
    unfold hkV at e
    rw [e] at dg
    refine ⟨.ref q, q1, q, _, rfl, dg, ?_⟩
    rw [Option.isSome_map]
    exact r2 _ G2 H2 (Grow.refl ok2.gh) (.bl _)
/-- list(x): its keys -/
theorem o_dlist {kvs : List (Int × α)} {x : Str} {px : Pos} (hc : X.calm = true) (hm : X.mg "list" = none) (i : Nat) (hs : S[i]? = some (.dk (kvV vd kvs))) (hp : PE X (.Name x px) (tVar i)) (hg : Gl X "list" := by rfl)
    (he : starEach ((.Name x px) :: []) X.env = (false, eval (.Name x px) X.env) :: starEach [] X.env := by rfl) (hpl : (backTo pos (starEach [] X.env)).any (·.1) = false := by rfl) :
    DO X J S (.Call (.Name "list" p) [.Name x px] [] pos) eI (.ok (kvs.map (·.1))) :=
  pe_imp (pe_callTy (call_listD hc) hg hm boot_list (pa_cons hp pa_nil) (by decide) (by decide) he hpl) fun σ H Q ⟨G, own, ok, fin⟩ => by
    obtain ⟨q, q1, q2, q3⟩ := ok.sl i _ hs
    refine ⟨.ref q, q1, q, hkV (kvV vd kvs), rfl, .inl q3, fun l hl => ?_⟩
    refine fin l _ G _ (Grow.allocO ok.gh hl) hl upd_same (Same.free ok.gh hl) ?_
    have e : ((hkV (kvV vd kvs)).map fun kv => kV kv.1) = (kvs.map (·.1)).map V.int := by
      unfold hkV kvV
      rw [List.map_map, List.map_map, List.map_map]
      rfl
    rw [e]
    exact DL.DenL.of_ints _
/-- x = dict(pairs) -/
def mergeA (kvs : List (Int × α)) : List (Int × α) := kvs.foldl (fun acc kv => putA acc kv.1 kv.2) []
theorem merge_hk (vd : α → V) : ∀ (kvs acc : List (Int × α)), mergeK (hkV (kvV vd acc)) (hkV (kvV vd kvs)) = hkV (kvV vd (kvs.foldl (fun acc kv => putA acc kv.1 kv.2) acc))
  | [], acc => rfl
  | kv :: kvs, acc => by
    have ih := merge_hk vd kvs (putA acc kv.1 kv.2)
    unfold mergeK at *
    rw [List.foldl_cons, ← ih, ← put_hk]
    rfl
theorem pairs_of {G H : Hp} (sg : Same G H) (hv : Vd enc vd) : ∀ {kvs : List (Int × α)} {vs : List V}, DenL X.K J.ca G vs (kvs.map (eP2 eI enc)) → ∃ ps : List Addr, vs = ps.map V.ref ∧ Paired (fun p (kv : Key × V) => SqT X.K H p [kV kv.1, kv.2]) ps (hkV (kvV vd kvs))
  | [], _, h => by cases h; exact ⟨[], rfl, .nil⟩
  | kv :: kvs, _, h => by
    cases h with
    | cons h1 h2 =>
      obtain ⟨ps, e, pr⟩ := pairs_of sg hv h2
      cases h1 with
      | tup q t =>
        cases t with
        | cons t1 t =>
          cases t with
          | cons t2 t =>
            cases t
            cases t1
            have ev := hv.inv t2
            subst ev
            subst e
            exact ⟨_ :: ps, rfl, .cons (same_seqT sg q) pr⟩
theorem ss_ddict {m : M (List (Int × α))} {f : List (Int × α) → M (Out β γ ρ)} {x : Str} {px p2 cp : Pos} {i : Nat} (hv : Vd enc vd) (hc : X.calm = true) (hN : X.N.Nodup) (hm : X.mg "dict" = none) (h : PA X [a] (tCons (tEb X J S (eL (eP2 eI enc)) m) tNil)) (hr : ∀ ys, DSs X J (S.set i (.dk (kvV vd ys))) rest N L R (f ys)) (hw : Wk S J.Sx)
    (hi : X.N[i]? = some x := by rfl) (hx : Loc X.env.scope x := by first | exact Or.inl rfl | exact Or.inr rfl) (hg : Gl X "dict" := by rfl)
    (he : starEach (a :: []) X.env = (false, eval a X.env) :: starEach [] X.env := by rfl) (hpl : (backTo cp (starEach [] X.env)).any (·.1) = false := by rfl)
    (hs : swapsWith (.Call (.Name "dict" p2) [a] [] cp) (some (.Name x px)) pos.line X.env = pure false := by rfl) (hf : X.fn x = true ∨ X.env.scope.names.lookup x = some .local := by first | exact .inl rfl | exact .inr rfl) :
    DSs X J S (.Assign [.Name x px] (.Call (.Name "dict" p2) [a] [] cp) pos :: rest) N L R (mb m fun z => f (mergeA z)) :=
  pss_imp (pss_cons (ps_set (i := i) hN hi hx (pe_callTy (call_dictP hc) hg hm (by decide +kernel) h (by decide) (by decide) he hpl) hs hf) (pss_ex hr)) fun Dn σ H ⟨G, own, ok, fin⟩ => by
    refine B_bind (FinS.wish hw) ok ⟨fin, ok⟩ fun z v G1 H1 g ok1 d r => ?_
    obtain ⟨q, vs, rfl, h1, h2⟩ := DenB.list ok1.gh d
    obtain ⟨ps, e, pr⟩ := pairs_of ok1.gh hv h2
    subst e
    refine ⟨q, ps, _, rfl, SqL.of h1, pr, fun l hl => ?_⟩
    have ok2 := ok1.grow (Grow.allocO (o := .dK (mergeK [] (hkV (kvV vd z)))) ok1.gh hl)
    have hm2 : mergeK [] (hkV (kvV vd z)) = hkV (kvV vd (mergeA z)) := merge_hk vd z []
    rw [hm2] at ok2 ⊢
    exact ⟨mergeA z, G1, _, ok2.setK (kvs := kvV vd (mergeA z)) upd_same (Same.free ok1.h0 hl) (Same.free ok1.gh hl) (Ok.fresh ok1 hl), r.1⟩
end
end DL

namespace DL
open PySem PySem.Spec PyProof.Rows L2
/-! ### zip of two sequences, each a list (false) or a tuple (true) -/
def itB (t : Bool) (h : Heap) (it l : Addr) (i : Nat) : Prop := if t = true then h.IsTupleIter it l i else h.IsListIter it l i
def sqB (t : Bool) (h : Heap) (l : Addr) (its : Array Value) : Prop := if t = true then h.IsTuple l its else h.IsList l its
def seqB (t : Bool) (K : PySem.W.Frag) (H : Hp) (a : Addr) (vs : List V) : Prop := if t = true then SqT K H a vs else SqL K H a vs
def obB (t : Bool) (l : Addr) : Obj := { cls := .type (if t = true then "tuple_iterator" else "list_iterator"), data := .fields #[.ref l, .int 0 0] }
theorem itB_at {t : Bool} {h h' : Heap} {it l : Addr} {i : Nat} (x : itB t h it l i) (k : ∀ o, h.get? it = some o → h'.get? it = some o) : itB t h' it l i := by
  cases t
  · exact Heap.IsListIter.at x k
  · exact Heap.IsTupleIter.at x k
theorem itB_obj {t : Bool} {h : Heap} {it l : Addr} {i : Nat} (x : itB t h it l i) : ∃ o, h.get? it = some o ∧ ∀ v, o.data ≠ .cell v := by
  cases t <;> (obtain ⟨o, e, _, d⟩ := x; exact ⟨o, e, fun v q => by rw [d] at q; cases q⟩)
theorem itB_new {t : Bool} {h : Heap} {it l : Addr} (e : h.get? it = some (obB t l)) : itB t h it l 0 := by
  cases t
  · exact ⟨_, e, rfl, rfl⟩
  · exact ⟨_, e, rfl, rfl⟩
theorem drawsB {prog : Program} {w : World} {A : Around} (t : Bool) (hh : A.handled = none) (it l : Addr) (hne : l ≠ it) (items : Array Value) :
    Draws prog w A it [it, l] items.size (fun i v => items[i]? = some v) (fun i h => itB t h it l i ∧ sqB t h l items) := by
  cases t
  · exact Draws.list hh it l hne items
  · exact Draws.tuple hh it l hne items
theorem beginsB (t : Bool) (l : Addr) (items : Array Value) : Begins (.ref l) (obB t l) fun h => sqB t h l items := by
  cases t
  · exact begins_list l items
  · exact begins_tuple l items
theorem invB {X : Cx} {pins : List (Addr × Obj)} {σ : L2.St} {H : Hp} {s : Shared} (t : Bool) {a : Addr} {xs : List V} (I : Inv X pins σ H s) (h : seqB t X.K H a xs) :
    ∃ its : List Value, Vals xs its ∧ sqB t s.heap a its.toArray ∧ a < s.heap.objs.size := by
  cases t
  · obtain ⟨its, r, p, _⟩ := I.list h
    exact ⟨its, r, p.isList, p.lt⟩
  · obtain ⟨its, r, p, _⟩ := I.tuple h
    refine ⟨its, r, p, ?_⟩
    obtain ⟨o, e, _⟩ := id p
    exact Heap.lt_size e
theorem injB {X : Cx} {pins : List (Addr × Obj)} {σ : L2.St} {H : Hp} {s : Shared} (t : Bool) {a : Addr} {xs ys : List V} (I : Inv X pins σ H s) (h : seqB t X.K H a xs) (h' : seqB t X.K H a ys) : xs = ys := by
  cases t
  · exact I.list_inj h h'
  · exact I.tuple_inj h h'
def ItzG (t1 t2 : Bool) (n : Nat) (K : PySem.W.Frag) (a b : Addr) : It :=
  ⟨fun i H => i < n ∧ ∃ (xs ys : List V) (x y : V), seqB t1 K H a xs ∧ seqB t2 K H b ys ∧ xs[i]? = some x ∧ ys[i]? = some y,
    fun i H v H' => ∃ T x y, v = .ref T ∧ H T = none ∧ H' = upd H T (.tup [x, y]) ∧ (∀ xs, seqB t1 K H a xs → xs[i]? = some x) ∧ ∀ ys, seqB t2 K H b ys → ys[i]? = some y,
    fun i H => n ≤ i ∧ ∃ xs ys : List V, seqB t1 K H a xs ∧ seqB t2 K H b ys ∧ min xs.length ys.length = n⟩
theorem turn_zipG {P : Program} {w : World} {K : PySem.W.Frag} {elts : List Expr} {kk n : Nat} {tpos : Pos} (t1 t2 : Bool) {a b z TI TO i1 i2 : Addr} (D : ZipSep2 z TI TO i1 i2 [i1, a] [i2, b]) (ha : a ≠ i1) (hb : b ≠ i2) :
    Turn P w K (.Tuple elts kk tpos) (ItzG t1 t2 n K a b) [z, TI, TO, i1, i2] z (fun i h => i ≤ n ∧ IsZip h z TI TO .none ∧ IsTupOf2 h TI (.ref i1) (.ref i2) ∧ (∃ x y, IsTupOf2 h TO x y) ∧ itB t1 h i1 a i ∧ itB t2 h i2 b i) where
  mem := List.mem_cons_self
  obj := fun i h st c hc => by
    obtain ⟨_, hz, hTI, ⟨x, y, hTO⟩, h1, h2⟩ := st
    simp only [List.mem_cons, List.not_mem_nil, or_false] at hc
    rcases hc with rfl | rfl | rfl | rfl | rfl
    · exact ⟨_, hz, fun v q => nomatch q⟩
    · exact ⟨_, hTI, fun v q => nomatch q⟩
    · exact ⟨_, hTO, fun v q => nomatch q⟩
    · exact itB_obj h1
    · exact itB_obj h2
  keep := fun i h h' st k => by
    obtain ⟨hl, hz, hTI, ⟨x, y, hTO⟩, h1, h2⟩ := st
    exact ⟨hl, k z (by simp) _ hz, k TI (by simp) _ hTI, ⟨x, y, k TO (by simp) _ hTO⟩, itB_at h1 fun o q => k i1 (by simp) o q, itB_at h2 fun o q => k i2 (by simp) o q⟩
  item := by
    intro X hP hw hK hc i pins s σ H E I hf st hg
    subst hP hw hK
    obtain ⟨hl, hz, hTI, hTO, h1, h2⟩ := st
    obtain ⟨hlt, xs, ys, x, y, hqx, hqy, hx, hy⟩ := hg
    obtain ⟨its, rv, p, _⟩ := invB t1 I hqx
    obtain ⟨its2, rv2, p2, _⟩ := invB t2 I hqy
    obtain ⟨u, hu, ru⟩ := rv.get hx
    obtain ⟨u2, hu2, ru2⟩ := rv2.get hy
    have W := WalksT.zipD2 (prog := X.prog) (w := X.w) (A := X.A) D (drawsB t1 (A := X.A.in1) (I.ok.hd hc) i1 a ha its.toArray) (drawsB t2 (A := X.A.in1) (I.ok.hd hc) i2 b hb its2.toArray)
    have hi : i < min its.toArray.size its2.toArray.size := by
      have q1 := (List.getElem?_eq_some_iff.mp hu).1
      have q2 := (List.getElem?_eq_some_iff.mp hu2).1
      simp only [List.size_toArray]
      omega
    refine W.item i s _ _ hi ⟨hz, hTI, hTO, ⟨h1, p⟩, ⟨h2, p2⟩⟩ fun T vals h' tk hP hT hIs hM hk => ?_
    obtain ⟨x1, x2, e1, e2, rfl⟩ := hP
    have e1' : x1 = u := by simpa [hu] using e1.symm
    have e2' : x2 = u2 := by simpa [hu2] using e2.symm
    subst e1' e2'
    refine ⟨_, rfl, W.go elts kk tpos i T { s with heap := h', toks := tk } _ _ hM fun h'' st'' hk2 => ?_⟩
    have hTw := W.apart i T h' hM
    have hIs2 : h''.IsTuple T #[x1, x2] := hIs.at fun o e => hk2 T o hTw e
    have new : ObjOk X.prog X.w (upd H T (.tup [x, y])) h'' T (.tup [x, y]) := ⟨by show 2 ≤ sizeLine; decide, [x1, x2], .cons ru (.cons ru2 .nil), hIs2⟩
    have kk2 : ∀ b o, b ∉ [z, TI, TO, i1, i2] → s.heap.get? b = some o → h''.get? b = some o := fun c o hc e => by
      have hc' : c ∉ [z, TO, i1, i2] := fun q => hc (by
        simp only [List.mem_cons, List.not_mem_nil, or_false] at q ⊢
        rcases q with q | q | q | q <;> simp [q])
      exact hk2 c o hc' (hk c o hc' e)
    have I1 : Inv X pins σ (upd H T (.tup [x, y])) { s with heap := h'', toks := tk } := I.turnedNew kk2 hf hT new
    obtain ⟨z2, TI2, TO2, ⟨h12, _⟩, h22, _⟩ := st''
    refine ⟨.ref T, _, I1, rfl, ⟨T, x, y, rfl, I.hok.fresh hT, rfl, fun l hq => by rw [injB t1 I hq hqx]; exact hx, fun l hq => by rw [injB t2 I hq hqy]; exact hy⟩, ⟨hlt, z2, TI2, TO2, h12, h22⟩, fun c hcm => ?_⟩
    have hne : c ≠ T := fun q => by
      subst q
      simp only [List.mem_cons, List.not_mem_nil, or_false] at hcm hTw
      rcases hcm with q | q | q | q | q
      · exact hTw (.inl q)
      · have := Heap.lt_size hTI
        rw [← q] at this
        exact absurd this (Nat.not_lt.mpr hT)
      · exact hTw (.inr (.inl q))
      · exact hTw (.inr (.inr (.inl q)))
      · exact hTw (.inr (.inr (.inr q)))
    rw [upd_ne hne]
    exact (hf c hcm).1
  done := by
    intro X hP hw hK hc i pins s σ H E I hf st hg
    subst hP hw hK
    obtain ⟨hl, hz, hTI, hTO, h1, h2⟩ := st
    obtain ⟨hge, xs, ys, hqx, hqy, hn⟩ := hg
    obtain ⟨its, rv, p, _⟩ := invB t1 I hqx
    obtain ⟨its2, rv2, p2, _⟩ := invB t2 I hqy
    have W := WalksT.zipD2 (prog := X.prog) (w := X.w) (A := X.A) D (drawsB t1 (A := X.A.in1) (I.ok.hd hc) i1 a ha its.toArray) (drawsB t2 (A := X.A.in1) (I.ok.hd hc) i2 b hb its2.toArray)
    have hi : i = min its.toArray.size its2.toArray.size := by
      have q1 := rv.length
      have q2 := rv2.length
      simp only [List.size_toArray]
      omega
    subst hi
    refine W.done s _ _ ⟨hz, hTI, hTO, ⟨h1, p⟩, ⟨h2, p2⟩⟩ fun h' tk hk => ⟨rfl, I.turnedL (ch := [z, TI, TO, i1, i2]) (fun c o hc e => ?_) hf⟩
    exact hk c o (fun q => hc (by
      simp only [List.mem_cons, List.not_mem_nil, or_false] at q ⊢
      rcases q with q | q | q | q <;> simp [q])) e
  self := fun A i s Q E st h => wpAny_pyIter_zip st.2.1 h
def iZipG (t1 t2 : Bool) (K : PySem.W.Frag) (ta : TA) : TI := fun σ H R => ta σ H fun vs H1 => ∃ a b xs ys, vs = [.ref a, .ref b] ∧ seqB t1 K H1 a xs ∧ seqB t2 K H1 b ys ∧ R (ItzG t1 t2 (min xs.length ys.length) K a b) H1
theorem pi_zipG {X : Cx} {e e2 : Expr} {ta : TA} {p pos tpos : Pos} {elts : List Expr} {kk : Nat} (t1 t2 : Bool) (hg : Gl X "zip") (hm : X.mg "zip" = none) (ha : PA X [e, e2] ta)
    (hs : starEach [e, e2] X.env = (false, eval e X.env) :: starEach [e2] X.env := by rfl) (hpl : (backTo pos (starEach [e2] X.env)).any (·.1) = false := by rfl) :
    PI X (.Tuple elts kk tpos) (.Call (.Name "zip" p) [e, e2] [] pos) (iZipG t1 t2 X.K ta) := ⟨fun pins s σ H R I h => by
  refine Call_ (ld_blt I hg hm boot_zip (callWith_type1 (thn (ha.run pos pins s σ H _ I h) fun us s1 ⟨vs, H1, I1, r1, q1⟩ => ?_) hs hpl))
  obtain ⟨a, b, xs, ys, rfl, hqx, hqy, q⟩ := q1
  obtain ⟨u1, u2, rfl, r1, r2⟩ : ∃ u1 u2, us = [u1, u2] ∧ RelV (.ref a) u1 ∧ RelV (.ref b) u2 := by
    cases r1 with
    | cons r rr =>
      cases rr with
      | cons r' rr =>
        cases rr
        exact ⟨_, _, rfl, r, r'⟩
  have e1 : u1 = .ref a := r1
  have e2 : u2 = .ref b := r2
  subst e1 e2
  obtain ⟨its, rv, p1, la⟩ := invB t1 I1 hqx
  obtain ⟨its2, rv2, p2, lb⟩ := invB t2 I1 hqy
  refine zip_begins2 (beginsB t1 a its.toArray) (beginsB t2 b its2.toArray) p1 p2 fun h' hz hTI hTO g1 g2 hsz hk => wpAny_pyIter_zip hz ?_
  refine ⟨_, _, _, _, H1, rfl, I1.kept (t' := s1.toks) hk, turn_zipG t1 t2 (zip_sep2 (N := s1.heap.objs.size) (fp1 := [a]) (fp2 := [b]) (by simpa using la) (by simpa using lb)) (Nat.ne_of_lt la) (Nat.ne_of_lt (Nat.lt_succ_of_lt lb)), ⟨Nat.zero_le _, hz, hTI, ⟨_, _, hTO⟩, itB_new g1, itB_new g2⟩, fun c hc => ?_, q⟩
  have hle : s1.heap.objs.size ≤ c := by
    simp only [List.mem_cons, List.not_mem_nil, or_false] at hc
    rcases hc with rfl | rfl | rfl | rfl | rfl <;> first | exact Nat.le_add_right _ _ | exact Nat.le_refl _
  exact I1.fpOk hle (I1.hok.fresh hle)⟩
variable {X : Cx} {J : Jx}
section
variable {α β κ ι : Type} {S : List Sl} {enc : α → D} {enb : β → D} {enk : κ → D} {enl : ι → D} {tg a b c e e2 : Expr} {es : List Expr} {pos p tpos : Pos} {k j kk : Nat}
/-- a frozen value that is a sequence of this sort -/
def SqE (X : Cx) (J : Jx) (t : Bool) (enk : κ → D) (enc : α → D) (g : κ → List α) : Prop := ∀ z v G, Den X.K J.ca G v (enk z) → ∃ a vs, v = .ref a ∧ (∀ H, Same G H → seqB t X.K H a vs) ∧ DenL X.K J.ca G vs ((g z).map enc)
theorem sqE_L : SqE X J false (eL enc) enc (fun z => z) := fun z v G d => by
  obtain ⟨a, vs, rfl, h1, h2⟩ := Den.lst' d
  exact ⟨a, vs, rfl, fun H e => SqL.of (e _ _ h1), h2⟩
theorem sqE_T : SqE X J true (eT enc) enc (fun z => z) := fun z v G d => by
  obtain ⟨a, vs, rfl, h1, h2⟩ := Den.tup' d
  exact ⟨a, vs, rfl, fun H e => same_seqT e h1, h2⟩
theorem i_zip {t1 t2 : Bool} {g1 : κ → List α} {g2 : ι → List β} {es : List Expr} {m : M κ} {n : M ι} (q1 : SqE X J t1 enk enc g1) (q2 : SqE X J t2 enl enb g2) (hg : Gl X "zip") (hm : X.mg "zip" = none) (ha : PA X [e, e2] (tCons (tE X J S enk m) (tCons (tE X J S enl n) tNil)))
    (hs : starEach [e, e2] X.env = (false, eval e X.env) :: starEach [e2] X.env := by rfl) (hpl : (backTo pos (starEach [e2] X.env)).any (·.1) = false := by rfl) :
    DI X J S (.Tuple es kk tpos) (.Call (.Name "zip" p) [e, e2] [] pos) (eP2 enc enb) (mb m fun x => mb n fun y => .ok ((g1 x).zip (g2 y))) :=
  pi_imp (pi_zipG t1 t2 hg hm ha hs hpl) fun σ H Q ⟨G, own, ok, fin⟩ => E_bind FinI.wish ok fin fun x v G1 H1 gr1 ok1 d r => E_bind FinI.wish ok1 r fun y u G2 H2 gr2 ok2 d2 r2 => by
    obtain ⟨a, xs, rfl, s1, l1⟩ := q1 x v G2 (d.mono gr2.g)
    obtain ⟨b, ys, rfl, s2, l2⟩ := q2 y u G2 d2
    have n1 := l1.length
    have n2 := l2.length
    rw [List.length_map] at n1 n2
    refine ⟨a, b, xs, ys, rfl, s1 _ ok2.gh, s2 _ ok2.gh, r2 _ G2 H2 (Grow.refl ok2.gh) fun i H3 G3 h0 h1 h2 => ⟨fun dd hd => ?_, fun hl => ?_⟩⟩
    · obtain ⟨hlt, ed⟩ := List.getElem?_eq_some_iff.mp hd
      rw [List.length_map, List.length_zip] at hlt
      have hx : i < (g1 x).length := by omega
      have hy : i < (g2 y).length := by omega
      have ed2 : dd = eP2 enc enb ((g1 x)[i], (g2 y)[i]) := by
        rw [← ed, List.getElem_map, List.getElem_zip]
      obtain ⟨w1, f1, f2⟩ := l1.get (i := i) (d := enc (g1 x)[i]) (by rw [List.getElem?_map, List.getElem?_eq_getElem hx]; rfl)
      obtain ⟨w2, f3, f4⟩ := l2.get (i := i) (d := enb (g2 y)[i]) (by rw [List.getElem?_map, List.getElem?_eq_getElem hy]; rfl)
      have p1 := s1 H3 (fun b o e => h2 _ _ (h1 _ _ e))
      have p2 := s2 H3 (fun b o e => h2 _ _ (h1 _ _ e))
      refine ⟨⟨by omega, xs, ys, w1, w2, p1, p2, f1, f3⟩, fun z H4 ⟨T, x', y', e1, e2, e3, e4, e5⟩ => ?_⟩
      subst e1 e3
      have e6 := e4 xs p1
      have e7 := e5 ys p2
      rw [f1] at e6; cases e6
      rw [f3] at e7; cases e7
      refine ⟨_, Grow.alloc h2 e2, ?_⟩
      rw [ed2]
      have sg := same_upd (o := .tup [w1, w2]) (Same.free h2 e2)
      exact .tup (.of upd_same) (.cons ((f2.mono h1).mono sg) (.cons ((f4.mono h1).mono sg) .nil))
    · rw [List.length_map, List.length_zip] at hl
      exact ⟨by omega, xs, ys, s1 H3 (fun b o e => h2 _ _ (h1 _ _ e)), s2 H3 (fun b o e => h2 _ _ (h1 _ _ e)), rfl⟩
/-! ### comprehensions over several names -/
theorem wipe_get (τ : L2.St) (us : List Nat) (m : Nat) : (L2.wipe τ us)[m]? = if m ∈ us then (if m < τ.length then some none else none) else τ[m]? := by
  induction us with
  | nil => simp [L2.wipe]
  | cons u us ih =>
    unfold L2.wipe
    by_cases hm : u = m
    · subst hm
      by_cases hl : u < τ.length
      · rw [List.getElem?_set_self (by rw [wipe_length]; exact hl)]; simp [hl]
      · rw [List.getElem?_eq_none (by rw [List.length_set, wipe_length]; omega)]; simp [hl]
    · rw [List.getElem?_set_ne hm, ih]
      simp [Ne.symm hm]
theorem wipe_set2 {σ : L2.St} {i : Nat} {v : Option V} {vs : List Nat} (h : i ∈ vs) : L2.wipe (σ.set i v) vs = L2.wipe σ vs := by
  apply List.ext_getElem?
  intro m
  rw [wipe_get, wipe_get]
  by_cases hm : m ∈ vs
  · simp [hm]
  · have : i ≠ m := fun e => hm (e ▸ h)
    rw [if_neg hm, if_neg hm, List.getElem?_set_ne this]
def GsC (X : Cx) (J : Jx) (encs : β → List D) (T : β → List Sl → List Sl) (vs : List Nat) (t : TGs) : Prop := ∀ (x : β) (us : List V) (G H : Hp) (own : Addr → Option Nat) (σ σ0 : L2.St) (S : List Sl) (Q : L2.St → Hp → Prop), Ok X.K J.ca J.B G H own σ S → L2.wipe σ vs = σ0 → DenL X.K J.ca G us (encs x) →
  (∀ σ' own', Ok X.K J.ca J.B G H own' σ' (T x S) → L2.wipe σ' vs = σ0 → own' = own → Q σ' H) → t us σ H Q
theorem gsc_nil {vs : List Nat} : GsC X J (fun _ : β => []) (fun _ S => S) vs gNil := fun x us G H own σ σ0 S Q ok hw d q => by cases d; exact ⟨rfl, q σ own ok hw rfl⟩
theorem gsc_cons {d : β → D} {encs : β → List D} {T : β → List Sl → List Sl} {i : Nat} {vs : List Nat} {t : TGs} (h : i ∈ vs) (h2 : GsC X J encs T vs t) : GsC X J (fun z => d z :: encs z) (fun z S => T z (S.set i (.fr (d z)))) vs (gCons (gName i) t) := fun x us G H own σ σ0 S Q ok hw den q => by
  cases den with
  | cons d1 d2 => exact ⟨_, _, rfl, h2 x _ G H own _ σ0 _ Q (ok.setF d1) ((wipe_set2 h).trans hw) d2 q⟩
theorem wipe_wipe (σ : L2.St) (vs : List Nat) : L2.wipe (L2.wipe σ vs) vs = L2.wipe σ vs := by
  apply List.ext_getElem?
  intro m
  rw [wipe_get, wipe_get, wipe_length]
  by_cases hm : m ∈ vs
  · simp [hm]
  · rw [if_neg hm, if_neg hm]
theorem gs_tupC {encs : α → List D} {T : α → List Sl → List Sl} {n : Nat} {vs : List Nat} {t : TGs} (h : GsC X J encs T vs t) (he : ∀ z, enc z = .tup (encs z)) (hl : ∀ z, (encs z).length = n) : GSem X J enc T vs (gTup X.K n t) := fun x v G H own σ S Q ok d q => by
  rw [he x] at d
  obtain ⟨a, us, rfl, h1, h2⟩ := Den.tup' (X := X) d
  exact ⟨a, us, rfl, same_seqT ok.gh h1, by rw [h2.length, hl], h x us G H own _ _ S Q ok (wipe_wipe σ vs) h2 q⟩
theorem pg_tupB {N' : Nat} {t : TGs} {s : Shared} {H : Hp} {scope : Scope} {cenv : Env} {fp : List Addr} (hc : X.calm = true) (h : PGs (X.blk s H scope cenv fp) es t) (hn : (assignEach es (X.blk s H scope cenv fp).env).length = N' := by rfl) (hst : (assignEach es (X.blk s H scope cenv fp).env).findIdx? (·.1) = none := by rfl) :
    PG (X.blk s H scope cenv fp) (.Tuple es kk pos) (gTup X.K N' t) := pg_tup hc h hn hst
end
section
variable {α β β' γ δ ρ : Type} {S S' : List Sl} {N : β → List Sl} {L : γ → List Sl} {R : ρ → RV} {enc : α → D} {vd : α → V} {a b c e tg : Expr} {es : List Expr} {pos p : Pos} {k j : Nat} {rest body : List Stmt}
theorem ss_dnewV (vd : α → V) {m : M (Out β γ ρ)} {x : Str} {pd px : Pos} {i : Nat} (hN : X.N.Nodup) (hr : DSs X J (S.set i (.dk (kvV vd ([] : List (Int × α))))) rest N L R m) (hi : X.N[i]? = some x := by rfl) (hx : Loc X.env.scope x := by first | exact Or.inl rfl | exact Or.inr rfl)
    (hs : swapsWith (.Dict [] [] pd) (some (.Name x px)) pos.line X.env = pure false := by rfl) (hf : X.fn x = true ∨ X.env.scope.names.lookup x = some .local := by first | exact .inl rfl | exact .inr rfl) :
    DSs X J S (.Assign [.Name x px] (.Dict [] [] pd) pos :: rest) N L R m := ss_dnew hN hr hi hx hs hf
end
end DL

namespace DL
open PySem PySem.Spec PyProof.Rows L2
/-! ### sorted(set(xs)), any number of members below the scan's bound -/
theorem up_of {l : List Int} (h : l.Pairwise (· ≤ ·)) (d : l.Nodup) : l.Pairwise (· < ·) := by
  have q := List.Pairwise.and h d
  exact q.imp fun ⟨a, b⟩ => Int.lt_iff_le_and_ne.mpr ⟨a, b⟩
section
variable {P : Program} {w : World} {A : Around} {E : Value → Shared → Prop} {s : Shared}
theorem sort_setA {a : Addr} {S : Int → Bool} {n : Nat} {Q : Value → Shared → Prop} (R : SetR w s.heap a S n) (hh : A.handled = none)
    (hQ : ∀ s' (out : List Value) (c : Nat) (p : Addr) (ns : List Int), s'.heap.get? p = some (seqObj "list" out.toArray c) ∧ s.heap.objs.size ≤ p ∧ s'.gens = s.gens ∧ s'.os = s.os ∧ (∀ b o, s.heap.get? b = some o → s'.heap.get? b = some o) →
      IntsAre out ns ∧ out.length ≤ sizeLine → ns.Pairwise (· < ·) → (∀ k, k ∈ ns ↔ S k = true) → Q (.ref p) s') :
    wpAny (model P w) A (call (.builtin "sorted") [.ref a]) Q E s := by
  obtain ⟨o, es, ep, t, q1, q2, q3, q4, q5, q6, q7, q8, q9, q10, q11⟩ := R
  have hsa : SetAt s.heap a es ep t := ⟨o, q1, q2.1, q3⟩
  refine Calls.call_function_entry kind_sorted plain_sorted entry_sorted (args_sorted1 _) ?_
  unfold Builtin.«sorted»
  refine wpAny_bind (m := checkCount "sorted" 1 1 _) (wpAny_pure (wpAny_bind (collect_set (A := A.in1) hh hsa q8 q7 q10 q11 fun s1 vs kept big gens os perm => ?_)))
  -- what came out of the set: ints, each once
  have hints : ∀ v ∈ vs, ∃ k tk, v = Value.int k tk := fun v hv => by
    obtain ⟨e, he, rfl⟩ := List.mem_map.mp (perm.mem_iff.mp hv)
    obtain ⟨k, tk, z, _⟩ := q4 e he
    exact ⟨k, tk, z⟩
  have hI := ints_of vs hints
  have hkeys : (vs.map Builtin.Re.reRawOf).Perm (es.toList.map keyOf) := by
    have z := perm.map Builtin.Re.reRawOf
    rwa [List.map_map] at z
  have hz : vs.length ≤ sizeLine := by
    have z : vs.length = es.size := by
      have z := perm.length_eq
      simpa using z
    rw [z]
    exact fits_of_scanBound q7
  refine wpAny_bind (wpAny_newList ?_ hz)
  have hnew : (s1.heap.push (seqObj "list" vs.toArray 0)).get? s1.heap.objs.size = some (seqObj "list" vs.toArray 0) := Heap.get?_push_size _ rfl
  refine wpAny_bind (wpAny_holding (wpAny_call_entry slot_list_sort ⟨_, hnew, rfl⟩ entry_list_sort (SrtO.list_sort_ord SrtO.swo_int hnew hz (fun h2 => SrtO.ints_sortable hI h2) fun out hs hb => ⟨_, rfl, wpAny_pure ⟨_, rfl, ?_⟩⟩) (args_list_sort _)))
  obtain ⟨k1, k2, k3⟩ := SrtO.ints_out hI hs hb
  obtain ⟨c, hc⟩ := sortedHeap_at (vs := vs) (out := out.toArray) hnew
  have pn := k2.trans hkeys
  refine hQ _ out c _ _ ⟨hc, big, gens, os, fun b u e => ?_⟩ ⟨k1, ?_⟩ (up_of k3 (pn.nodup_iff.mpr q5)) fun k => by rw [pn.mem_iff, ← q6 k]
  · have hb1 := Heap.lt_size (kept b u e)
    refine (sortedHeap_old (Nat.ne_of_lt hb1) ?_).trans (Heap.get?_push_of_some _ (kept b u e))
    rw [Heap.size_push]
    exact Nat.lt_succ_of_lt hb1
  · rw [hb.perm.length_eq]
    exact hz
end
variable {X : Cx} {J : Jx}
theorem cr_sortedA (hc : X.calm = true) : CallR X (.builtin "sorted") (fun vs H Q => ∃ (a : Addr) (S : Int → Bool) (n : Nat), vs = [V.ref a] ∧ H a = some (SetO X.w a S n) ∧
    ∀ (ns : List Int) (p : Addr), ns.Pairwise (· < ·) → (∀ k : Int, k ∈ ns ↔ S k = true) → H p = none → Q (.ref p) (upd H p (.lst (ns.map V.int)))) := by
  intro pins s σ H vs us Q I r h
  obtain ⟨a, S, n, rfl, ha, q⟩ := h
  rw [Vals.ref1 r]
  refine sort_setA (setO_get I ha) (I.ok.hd hc) fun s' out c p ns ⟨hg, hp, g, o, k⟩ ⟨hi, hz⟩ hs hm => ?_
  have hn : H p = none := I.hok.fresh hp
  have hl : (ns.map V.int).length ≤ sizeLine := by
    have z := (vals_of_ints hi).length
    omega
  have I2 : Inv X pins σ (upd H p (.lst (ns.map V.int))) { s with heap := s'.heap, gens := s'.gens, drawn := s'.drawn, toks := s'.toks } :=
    I.call (ch := []) (Un.laid k hp hn) (I.hok.laid k hp ⟨hl, out, c, vals_of_ints hi, hg⟩) (by rw [g]; exact I.bare) (fun _ z => nomatch z)
  have e : s' = { s with heap := s'.heap, gens := s'.gens, drawn := s'.drawn, toks := s'.toks } := by
    obtain ⟨_, _, _, _, _⟩ := s'
    obtain ⟨_, _, _, _, _⟩ := s
    cases o
    rfl
  rw [e]
  exact ⟨.ref p, _, I2, rfl, q ns p hs hm hn⟩
/-- sorted(set(xs)), fewer than 500 items -/
def sortSetB (xs : List Int) : M (List Int) := if xs.length < 500 then .ok (usort xs) else .no
theorem o_sortSetB {S : List Sl} {a : Expr} {pos p : Pos} {α : Type} {enc : α → D} {f : α → List Int} {m : M α} {p2 q2 : Pos} (hc : X.calm = true) (hm : X.mg "sorted" = none) (hm2 : X.mg "set" = none) (hq : SeqI X J enc f) (h : PA X [a] (tCons (tEb X J S enc m) tNil)) (hg : Gl X "sorted" := by rfl) (hg2 : Gl X "set" := by rfl)
    (he2 : starEach (a :: []) X.env = (false, eval a X.env) :: starEach [] X.env := by rfl) (hpl2 : (backTo q2 (starEach [] X.env)).any (·.1) = false := by rfl)
    (he : starEach (Expr.Call (.Name "set" p2) [a] [] q2 :: []) X.env = (false, eval (.Call (.Name "set" p2) [a] [] q2) X.env) :: starEach [] X.env := by rfl) (hpl : (backTo pos (starEach [] X.env)).any (·.1) = false := by rfl) :
    DO X J S (.Call (.Name "sorted" p) [.Call (.Name "set" p2) [a] [] q2] [] pos) eI (mb m fun z => sortSetB (f z)) :=
  pe_imp (pe_callB (cr_sortedA hc) hg hm (by decide +kernel) (pa_cons (pe_callTy (cr_setI hc) hg2 hm2 boot_set h (by decide) (by decide) he2 hpl2) pa_nil he) (by decide) (by decide) he hpl) fun σ H Q ⟨G, own, ok, fin⟩ => B_bind FinO.wish ok fin fun z v G1 H1 g ok1 d r => by
    obtain ⟨q, rfl, h1⟩ := hq z v _ _ _ ok1.gh d
    unfold sortSetB at r
    split at r
    · rename_i hl
      refine ⟨q, f z, rfl, h1, by omega, fun t c ht hcl => ⟨t, _, c, rfl, upd_same, fun ns l h3 h4 h6 => ?_⟩⟩
      rw [usort_eq h3 h4]
      have n1 : l ≠ t := fun z => by rw [z, upd_same] at h6; cases h6
      have hl1 : H1 l = none := by rw [upd_ne n1] at h6; exact h6
      have g1 := Grow.allocO (o := SetO X.w t (fun j => decide (j ∈ f z)) c) ok1.gh ht
      have g2 := Grow.allocO (o := .lst ((usort (f z)).map V.int)) g1.gh h6
      exact r l _ G1 _ (g1.trans g2) hl1 upd_same (Same.free ok1.gh hl1) (DL.DenL.of_ints _)
    · exact r.elim
end DL

namespace DL
open PySem PySem.Spec PyProof.Rows L2
variable {X : Cx} {J : Jx}
/-! ### a loop over a range where an exception is handled -/
def DIH (X : Cx) (J : Jx) {α : Type} (S : List Sl) (tg iter : Expr) (enc : α → D) (n : M (List α)) : Prop := L2H.PIH X tg iter (tI X J S enc n)
section
variable {α β γ δ ρ : Type} {S S' : List Sl} {N : β → List Sl} {L : γ → List Sl} {Lo : δ → List Sl} {R : ρ → RV} {enc : α → D} {rest body : List Stmt} {tg iter e c : Expr} {pos : Pos} {k : Nat}
/-- a test of a list of one's own as of a frozen one: it stays one's own behind it -/
theorem t_frz {ds : List D} {m : M Bool} {b : Bool} (i : Nat) (hs : S[i]? = some (.ow ds)) (h : DT X J (S.set i (.fr (.lst ds))) e m) (he : m = .ok b) : DT X J S e (.ok b) := pt_imp h fun σ H Q ⟨G, own, ok, fin⟩ => by
  obtain ⟨G', own', sg, ok'⟩ := ok.frz hs
  rw [he]
  exact ⟨G', own', ok', fun G1 H1 gr => fin G H1 ⟨Same.refl _, gr.h, ok.gh.trans gr.h, fun _ _ => rfl⟩⟩
theorem i_range1H {a : Expr} {p : Pos} {m : M Int} (hg : Gl X "range") (hm : X.mg "range" = none) (ha : PA X [a] (tCons (tE X J S eI m) tNil)) (hs : starEach [a] X.env = [(false, eval a X.env)] := by rfl) : DIH X J S tg (.Call (.Name "range" p) [a] [] pos) eI (mb m fun n => rngM 0 n) :=
  ⟨fun pins s σ H R I ⟨G, own, ok, fin⟩ => (L2H.pi_range1H hg hm ha hs).run pins s σ H R I (E_bind FinI.wish ok fin fun n v G1 H1 g ok1 d r => by
    cases d
    unfold rngM at r
    split at r
    · rename_i h
      simp only [okI, Bool.and_eq_true, decide_eq_true_eq] at h
      refine ⟨n, rfl, h.2.1, h.2.2, ?_⟩
      have q := r (Itr 0 (n - 0).toNat) G1 H1 (Grow.refl ok1.gh) itr_ok
      rwa [show n - 0 = n by omega] at q
    · exact r.elim)⟩
theorem ss_forH {m : M (List α)} {f : α → γ → M (Out γ γ ρ)} {T : α → List Sl → List Sl} {g : γ → M (Out β δ ρ)} (s0 : γ) (C : CxS X J k) (hpo : PassesOwn (model X.prog X.w) X.A X.env X.xe) (hi : DIH X J S tg iter enc m) (hg : DG X J tg enc T) (hw0 : Wk S (L s0)) (hw : Wk S J.Sx)
    (hb : ∀ x s, DSs X J (T x (L s)) body L L R (f x s)) (hr : ∀ s, DSs X J (L s) rest N Lo R (g s)) (hs : ∀ x, foldedSetIterable iter X.env x = pure x := by intro _; rfl) :
    DSs X J S (.For tg iter body [] pos :: rest) N Lo R (mb m fun zs => sq (forM f zs s0) g) := by
  rw [← sq_mb]
  obtain ⟨gt, hg, hgt⟩ := hg
  refine ss_cons (N := L) (ps_imp (L2H.ps_forH hpo C.hot hi hg (pss_ex fun x => pss_ex fun s => hb x s) hs) fun Dn σ H ⟨G, own, ok, fin⟩ => ?_) hr
  refine ⟨G, own, ok, ?_⟩
  have W := FinS.wish (X := X) (J := J) (N := L) (L := Lo) (R := R) (Dn := Dn) (own := own) (σ := σ) hw
  cases m with
  | er x => exact W.2.1 x G H ⟨fin, ok⟩
  | no => exact fin.elim
  | ok zs =>
    intro I G1 H1 gr io
    have fin : FinS X J L Lo R Dn G (forM f zs s0) := fin
    refine ⟨fun i m σ2 H2 => m = zs.length - i ∧ i ≤ zs.length ∧ ∃ s G2 own2, OkX X J G2 H2 own2 σ2 (L s) ∧ Same G1 G2 ∧ FinS X J L Lo R Dn G2 (forM f (zs.drop i) s), ⟨_, rfl, Nat.zero_le _, s0, G1, own, (ok.grow gr).weak hw0, Same.refl _, by rw [List.drop_zero]; exact fin.mono gr.g⟩, ?_⟩
    rintro i m σ2 H2 ⟨rfl, hile, s, G2, own2, ok2, s12, fin2⟩
    by_cases hlt : i < zs.length
    · have hd : (zs.map enc)[i]? = some (enc zs[i]) := by rw [List.getElem?_map, List.getElem?_eq_getElem hlt]; rfl
      obtain ⟨go, yld⟩ := (io i H2 G2 ok2.h0 s12 ok2.gh).1 _ hd
      rw [List.drop_eq_getElem_cons hlt] at fin2
      refine .inr ⟨go, fun σ' H' => zs.length - (i + 1) = zs.length - (i + 1) ∧ i + 1 ≤ zs.length ∧ ∃ s G2 own2, OkX X J G2 H' own2 σ' (L s) ∧ Same G1 G2 ∧ FinS X J L Lo R Dn G2 (forM f (zs.drop (i + 1)) s), fun σ' H' n => ⟨_, by omega, n⟩, fun x H3 y => ?_⟩
      obtain ⟨G3, gr3, den⟩ := yld x H3 y
      refine hgt zs[i] x G3 H3 own2 σ2 (L s) _ (ok2.grow gr3) den fun σ4 own4 ok4 => ⟨zs[i], s, G3, own4, ok4, ?_⟩
      have again : ∀ {s' : γ}, FinS X J L Lo R Dn G2 (forM f (zs.drop (i + 1)) s') → ∀ σ' G' H' own', Same G3 G' → OkX X J G' H' own' σ' (L s') → zs.length - (i + 1) = zs.length - (i + 1) ∧ i + 1 ≤ zs.length ∧ ∃ s G2 own2, OkX X J G2 H' own2 σ' (L s) ∧ Same G1 G2 ∧ FinS X J L Lo R Dn G2 (forM f (zs.drop (i + 1)) s) :=
        fun {s'} q σ' G' H' own' sg ok' => ⟨rfl, hlt, s', G', own', ok', s12.trans (gr3.g.trans sg), q.mono (gr3.g.trans sg)⟩
      unfold forM at fin2
      cases hf : f zs[i] s with
      | ok o =>
        rw [hf] at fin2
        cases o with
        | nx s' => exact fun σ' G' H' own' sg ok' => again fin2 σ' G' H' own' sg ok'
        | ct s' => exact fun σ' G' H' own' sg ok' => again fin2 σ' G' H' own' sg ok'
        | bk s' => exact fun σ' G' H' own' sg ok' => fin2 σ' G' H' own' (gr3.g.trans sg) ok'
        | rt r => exact fin2
      | er x => rw [hf] at fin2; exact FinS.mono (n := .er x) (N := L) (L := L) (R := R) (Dn := ⟨_, _, _, _⟩) fin2 gr3.g
      | no => rw [hf] at fin2; exact fin2.elim
    · have he : i = zs.length := by omega
      subst he
      rw [List.drop_length] at fin2
      exact .inl ⟨(io _ H2 G2 ok2.h0 s12 ok2.gh).2 (by rw [List.length_map]; exact Nat.le_refl _), fin2 σ2 G2 H2 own2 (Same.refl _) ok2⟩
end
theorem fn_okH2 {P : Program} {w : World} {K : PySem.W.Frag} {mg : Str → Option Value} {base : Heap} {x qual : Str} {st : Stmt} {f : Addr} {fd : FuncData} {Ns ps : List Str} {k n : Nat} {ca : Str → Addr} {α β γ ρ : Type} {encA : α → List Sl} {R : ρ → RV} {Nx : α → β → List Sl} {L : α → γ → List Sl} {code : α → M (Out β γ ρ)}
    (F : Fun K x qual st f fd) (S : FnScope Ns ps (defScope st)) (hl : ∀ a, (encA a).length = ps.length) (hn : ps.length + n = Ns.length)
    (hb : ∀ (cdv : Value) (A : Around) (outer : List Env) (s : Shared) (G H : Hp) (E : XK) (a : α) (q : Addr × Obj), CxS (L2H.cxH (L2N.CX P w) P w K mg base Ns qual (defScope st) f cdv A outer s H E q) (jx ca E G H) k →
      PassesOwn (model (L2H.cxH (L2N.CX P w) P w K mg base Ns qual (defScope st) f cdv A outer s H E q).prog (L2H.cxH (L2N.CX P w) P w K mg base Ns qual (defScope st) f cdv A outer s H E q).w) (L2H.cxH (L2N.CX P w) P w K mg base Ns qual (defScope st) f cdv A outer s H E q).A (L2H.cxH (L2N.CX P w) P w K mg base Ns qual (defScope st) f cdv A outer s H E q).env (L2H.cxH (L2N.CX P w) P w K mg base Ns qual (defScope st) f cdv A outer s H E q).xe →
      DSs (L2H.cxH (L2N.CX P w) P w K mg base Ns qual (defScope st) f cdv A outer s H E q) (jx ca E G H) (encA a ++ List.replicate n .un) (defBody st) (Nx a) (L a) R (code a)) :
    L2H.FnH P w K mg base (L2N.CX P w) (k + 1) f fd ps (spF K ca encA fun a => fnO R (code a)) := by
  obtain ⟨oc, od, kV, doc, pm, an, cdv, ct, osl, rfl, lk, hcd⟩ := F.ex
  refine L2H.fn_ofH lk hcd S (fun vs H Q E ⟨a, G, e, d, r⟩ => by rw [d.length, hl a]) fun A outer s H vs Q E q hot hr ⟨a, G, e, d, r⟩ => ?_
  have C : CxS (L2H.cxH (L2N.CX P w) P w K mg base Ns qual (defScope st) f cdv A outer s H E q) (jx ca E G H) k :=
    ⟨⟨q, hot, List.mem_singleton.mpr rfl⟩, hr, L2N.takes_of rfl rfl rfl rfl, S.nd⟩
  refine ⟨_, hb cdv A outer s G H E a q C (passes_of rfl), G, _, ok_start e d (by rw [hl a]; omega), ?_⟩
  have r' : spR K ca G H (fnO R (code a)) Q E := r
  cases hc : code a with
  | ok o =>
    rw [hc] at r'
    cases o with
    | nx b => exact fun σ' G' H' own' sg ok' => r' .non G' H' ok'.base .non
    | rt q =>
      have r2 : spR K ca G H (.ok (R q)) Q E := r'
      show RtK _ _ (R q) Q
      cases hR : R q with
      | fr d => rw [hR] at r2; exact r2
      | ow ds => rw [hR] at r2; exact fun p vs G' H' g h1 h2 h3 h4 => r2 p vs G' H' g h1 h2 h3 h4
      | op ds d => rw [hR] at r2; exact fun t p u vs G' H' g h1 h2 h3 h4 h5 h6 => r2 t p u vs G' H' g h1 h2 h3 h4 h5 h6
    | bk c => exact r'.elim
    | ct c => exact r'.elim
  | er x =>
    rw [hc] at r'
    exact fun cls d σ' G' H' own' sg ok' ra => r' cls d G' H' ok'.base ra
  | no => rw [hc] at r'; exact r'.elim
end DL

namespace DL
open PySem PySem.Spec PyProof.Rows L2
variable {X : Cx} {J : Jx}
/-! ### a pair whose first part is a new list of one's own -/
def FinPq (X : Cx) (J : Jx) {α β : Type} (enc : α → D) (enb : β → D) (n : M (List α × β)) (σ : L2.St) (G H : Hp) (Q : VK) : Prop := match n with
  | .ok z => ∀ t p u vs G' H', Grow G H G' H' → H p = none → H' p = some (.lst vs) → G' p = none → SqT X.K G' t [.ref p, u] → DenL X.K J.ca G' vs (z.1.map enc) → Den X.K J.ca G' u (enb z.2) → Q (.ref t) H'
  | .er x => ErK X.K J.ca x G H fun cls d H' => J.W cls d σ H'
  | .no => False
def DPr (X : Cx) (J : Jx) {α β : Type} (S : List Sl) (e : Expr) (enc : α → D) (enb : β → D) (n : M (List α × β)) : Prop := PE X e fun σ H Q => ∃ G own, OkX X J G H own σ S ∧ FinPq X J enc enb n σ G H Q
def spP (K : PySem.W.Frag) (ca : Str → Addr) {α β ρ : Type} (encA : α → List Sl) (enc : β → D) (enb : ρ → D) (code : α → M (List β × ρ)) : Sp := spF K ca encA fun a => mb (code a) fun r => .ok (.op (r.1.map enc) (enb r.2))
/-- what a test says though it raises is not told -/
def noE {α : Type} (m : M α) : M α := match m with
  | .er _ => .no
  | m => m
theorem noE_ok {α : Type} (x : α) : noE (.ok x) = .ok x := rfl
section
variable {α β γ δ ρ κ : Type} {S S' : List Sl} {N : β → List Sl} {L : γ → List Sl} {R : ρ → RV} {enc : α → D} {enb : δ → D} {a b c e : Expr} {es : List Expr} {pos p : Pos} {k j : Nat} {rest body : List Stmt} {f : Addr} {fd : FuncData} {ps : List Str} {x : Str} {encs : κ → List Sl}
theorem FinPq.grow {n : M (List α × δ)} {σ : L2.St} {G H G' H' : Hp} {Q : VK} (f : FinPq X J enc enb n σ G H Q) (g : Grow G H G' H') : FinPq X J enc enb n σ G' H' Q := by
  cases n with
  | ok z => exact fun t p u vs G2 H2 g2 hp hq hg ht d d2 => f t p u vs G2 H2 (g.trans g2) (none_back g hp) hq hg ht d d2
  | er x => exact ErK.grow f g
  | no => exact f
theorem FinPq.wish {σ : L2.St} {Q : VK} : Wish (fun n G H => FinPq X J enc enb n σ G H Q) (fun cls d H' => J.W cls d σ H') X.K J.ca := ⟨fun _ _ _ _ _ f g => f.grow g, fun _ _ _ f => f, fun _ _ f => f⟩
theorem Pr_bind {R : M ρ → Hp → Hp → Prop} {n : M (List α × δ)} {f : List α × δ → M ρ} {σ : L2.St} {G H : Hp} {own : Addr → Option Nat} {P : VK} (w : Wish R (fun cls d H' => J.W cls d σ H') X.K J.ca) (ok : OkX X J G H own σ S) (r : R (mb n f) G H)
    (h : ∀ z t p u vs G1 H1, Grow G H G1 H1 → OkX X J G1 H1 own σ S → H p = none → own p = none → H1 p = some (.lst vs) → G1 p = none → SqT X.K G1 t [.ref p, u] → DenL X.K J.ca G1 vs (z.1.map enc) → Den X.K J.ca G1 u (enb z.2) → R (f z) G1 H1 → P (.ref t) H1) :
    ∃ G own, OkX X J G H own σ S ∧ FinPq X J enc enb n σ G H P := by
  refine ⟨G, own, ok, ?_⟩
  cases n with
  | ok z => exact fun t p u vs G1 H1 g hp hq hg ht d d2 => h z t p u vs G1 H1 g (ok.grow g) hp (Ok.fresh ok hp) hq hg ht d d2 (w.1 _ _ _ _ _ r g)
  | er x => exact w.2.1 _ _ _ r
  | no => exact w.2.2 _ _ r
/-- frozen -/
theorem e_pr {n : M (List α × δ)} (h : DPr X J S e enc enb n) : DE X J S e (eP2 (eL enc) enb) n := pe_imp h fun σ H Q ⟨G, own, ok, fin⟩ => by
  refine ⟨G, own, ok, ?_⟩
  cases n with
  | ok z =>
    refine fun t p u vs G' H' g hp hq hg ht d d2 => fin (.ref t) (upd G' p (.lst vs)) H' ⟨g.g.trans (same_upd hg), g.h, fun b o e => ?_, fun b hb => ?_⟩ (.tup (same_seqT (same_upd hg) ht) (.cons (.lst upd_same (d.mono (same_upd hg))) (.cons (d2.mono (same_upd hg)) .nil)))
    · by_cases z : b = p
      · subst z; rw [upd_same] at e; cases e; exact hq
      · rw [upd_ne z] at e; exact g.gh _ _ e
    · have : b ≠ p := fun z => hb (z ▸ hp)
      rw [upd_ne this]; exact g.n b hb
  | er x => exact fin
  | no => exact fin
theorem fn_P {P : Program} {w : World} {K : PySem.W.Frag} {mg : Str → Option Value} {base : Heap} {ca : Str → Addr} {code : κ → M (Out β γ (List α × δ))} (h : FnOk P w K mg base (L2N.CX P w) k f fd ps (spF K ca encs fun a => fnO (fun r => .op (r.1.map enc) (enb r.2)) (code a))) :
    FnOk P w K mg base (L2N.CX P w) k f fd ps (spP K ca encs enc enb fun a => fnV .no (code a)) := h.imp (sp_imp fun a => fnO_fnV (.inl rfl))
theorem p_call {code : κ → M (List α × δ)} {n : M κ} (C : CxD X J k) (hj : j ≤ k) (F : FnOk X.prog X.w X.K X.mg X.base (L2N.CX X.prog X.w) j f fd ps (spP X.K J.ca encs enc enb code)) (hm : X.mg x = some (.ref f)) (hk : PySem.W.keepIn X.K (.ref f) = true) (hb : Binds X.K fd ps [])
    (h : DX X J S (e :: es) encs n) (hg : Gl X x := by rfl) (hdb : (x == ("__debug__" : Str)) = false := by decide) (he : starEach (e :: es) X.env = (false, eval e X.env) :: starEach es X.env := by rfl) (hpl : (backTo pos (starEach es X.env)).any (·.1) = false := by rfl) :
    DPr X J S (.Call (.Name x p) (e :: es) [] pos) enc enb (mb n code) :=
  pe_imp (pe_callSD (F.mono hj) C.room hg hm hk hb .nil (fun σ => L2N.passAt C.tk σ) h hdb he hpl) fun σ H Q ⟨G, own, ok, fin⟩ => X_bind FinPq.wish ok fin fun z vs G1 H1 g1 ok1 d r => by
    show spP X.K J.ca encs enc enb code (vs ++ []) H1 Q _
    rw [List.append_nil]
    refine ⟨z, G1, ok1.gh, d, ?_⟩
    cases hc : code z with
    | ok y => rw [hc] at r; show spR X.K J.ca G1 H1 (mb (code z) _) Q _; rw [hc]; exact fun t p u ws G' H' g h1 h2 h3 h4 h5 h6 => r t p u ws G' H' g h1 h2 h3 h4 h5 h6
    | er q => rw [hc] at r; show spR X.K J.ca G1 H1 (mb (code z) _) Q _; rw [hc]; exact fun cls dd G' H' g ra => r cls dd G' H' g ra
    | no => rw [hc] at r; exact r.elim
/-- return (x, e), x a list of its own -/
theorem ss_retP {xs : List α} {m : M δ} {g : List α × δ → ρ} {kk : Nat} {px tpos : Pos} (i : Nat) (hs : S[i]? = some (.ow (xs.map enc))) (hp : PE X (.Name x px) (tVar i)) (hb : DE X J S b enb m) (hw : Wk S J.Sx) (hR : ∀ z, R (g z) = .op (z.1.map enc) (enb z.2)) (hsb : starEach [b] X.env = (false, eval b X.env) :: starEach [] X.env := by rfl) :
    DSs X J S (.Return (some (.Tuple [.Name x px, b] kk tpos)) pos :: rest) N L R (mb m fun z => .ok (.rt (g (xs, z)))) :=
  pss_imp (pss_cons (ps_ret (pe_tup (pa_cons hp (pa_cons hb pa_nil hsb)))) pss_never) fun Dn σ H ⟨G, own, ok, fin⟩ => by
    obtain ⟨q, vs, h1, h2, h3, h4⟩ := ok.sl i _ hs
    obtain ⟨n1, n2, n3⟩ := ok.ow q i h2
    refine ⟨.ref q, h1, E_bind (FinS.wish hw) ok ⟨fin, ok⟩ fun z u G1 H1 gr ok1 d r => ?_⟩
    have rt : RtK X J (R (g (xs, z))) Dn.rt := r.1
    rw [hR] at rt
    refine ⟨small_line (by show 2 ≤ 1000; decide), fun t ht => ?_⟩
    have hq1 := gr.h _ _ h3
    have hne : q ≠ t := fun z => by rw [z, ht] at hq1; cases hq1
    have hG1 : G1 q = none := (gr.n q n3).trans n2
    have hGt := Same.free ok1.gh ht
    refine rt t q u vs _ _ (ok1.base.trans (Grow.alloc ok1.gh ht)) n1 ?_ ?_ (.of upd_same) ((h4.mono gr.g).mono (same_upd hGt)) (d.mono (same_upd hGt))
    · rw [upd_ne hne]; exact hq1
    · rw [upd_ne hne]; exact hG1
/-- x = a call that answers such a pair -/
theorem ss_asgP {m : M (List α × δ)} {f : List α × δ → M (Out β γ ρ)} {i : Nat} {x : Str} {pos' : Pos} (hN : X.N.Nodup) (he : DPr X J S e enc enb m) (hr : ∀ z, DSs X J (S.set i (.op (some (z.1.map enc)) (enb z.2))) rest N L R (f z)) (hw : Wk S J.Sx) (hi : X.N[i]? = some x := by rfl) (hx : Loc X.env.scope x := by first | exact Or.inl rfl | exact Or.inr rfl)
    (hs : swapsWith e (some (.Name x pos')) pos.line X.env = pure false := by rfl) (hf : X.fn x = true ∨ X.env.scope.names.lookup x = some .local := by first | exact .inl rfl | exact .inr rfl) :
    DSs X J S (.Assign [.Name x pos'] e pos :: rest) N L R (mb m f) :=
  pss_imp (pss_cons (ps_set (i := i) hN hi hx he hs hf) (pss_ex hr)) fun Dn σ H ⟨G, own, ok, fin⟩ =>
    Pr_bind (FinS.wish hw) ok ⟨fin, ok⟩ fun z t p u vs G1 H1 g ok1 hp ho hq hg ht d d2 r => ⟨z, G1, _, ok1.setP ht d2 hq (Same.free ok.h0 hp) hg ho d, r.1⟩
/-- a test of such a pair as of a frozen one -/
theorem t_frzP {ds : List D} {d : D} {m : M Bool} (i : Nat) (hs : S[i]? = some (.op (some ds) d)) (h : DT X J (S.set i (.fr (.tup [.lst ds, d]))) e m) : DT X J S e (noE m) := pt_imp h fun σ H Q ⟨G, own, ok, fin⟩ => by
  obtain ⟨G', own', sg, ok'⟩ := ok.frzP hs
  refine ⟨G', own', ok', ?_⟩
  cases m with
  | ok b => exact fun G1 H1 gr => fin G H1 ⟨Same.refl _, gr.h, ok.gh.trans gr.h, fun _ _ => rfl⟩
  | er y => exact fin.elim
  | no => exact fin
/-- y = x[0] -/
theorem ss_takeP {ds : List D} {d : D} {m : M (Out β γ ρ)} {i j kk : Nat} {x y : Str} {px py p2 pk : Pos} (hN : X.N.Nodup) (hij : i ≠ j) (hs : S[i]? = some (.op (some ds) d)) (hp : PE X (.Name x px) (tVar i)) (hr : DSs X J ((S.set i (.op none d)).set j (.ow ds)) rest N L R m)
    (hi : X.N[j]? = some y := by rfl) (hx : Loc X.env.scope y := by first | exact Or.inl rfl | exact Or.inr rfl)
    (hsw : swapsWith (.Subscript (.Name x px) (.Constant (.int ((0 : Nat) : Int)) kk pk) p2) (some (.Name y py)) pos.line X.env = pure false := by rfl) (hf : X.fn y = true ∨ X.env.scope.names.lookup y = some .local := by first | exact .inl rfl | exact .inr rfl) :
    DSs X J S (.Assign [.Name y py] (.Subscript (.Name x px) (.Constant (.int ((0 : Nat) : Int)) kk pk) p2) pos :: rest) N L R m :=
  pss_imp (pss_cons (ps_set (i := j) hN hi hx (pe_ix ix_tup hp pe_int (by intro _ _; rfl)) hsw hf) hr) fun Dn σ H ⟨G, own, ok, fin⟩ => by
    obtain ⟨t, w, u, h1, h2, h3, h4⟩ := ok.sl i _ hs
    obtain ⟨q, vs, rfl, e2, e3, e4⟩ := h4 ds rfl
    refine ⟨.ref t, h1, t, [.ref q, u], 0, .ref q, rfl, rfl, same_seqT ok.gh h2, atI_nat (j := 0) rfl, G, _, ok.takeP hs hij h1 h2 h3 e2 vs e3 e4, fin⟩
/-- x[1] -/
theorem e_snd {o : Option (List D)} {z : δ} {kk i : Nat} {px pk : Pos} (hs : S[i]? = some (.op o (enb z))) (hp : PE X (.Name x px) (tVar i)) : DE X J S (.Subscript (.Name x px) (.Constant (.int ((1 : Nat) : Int)) kk pk) pos) enb (.ok z) :=
  pe_imp (pe_ix ix_tup hp pe_int (by intro _ _; rfl)) fun σ H Q ⟨G, own, ok, fin⟩ => by
    obtain ⟨t, w, u, h1, h2, h3, h4⟩ := ok.sl i _ hs
    exact ⟨.ref t, h1, t, [w, u], 1, u, rfl, rfl, same_seqT ok.gh h2, atI_nat (j := 1) rfl, fin u G H (Grow.refl ok.gh) h3⟩
theorem c_isB : CmpD X J .Is eB eB fun a b => decide (a = b) := ⟨_, op_is_bl, fun x y v u G H own Q _ d1 d2 q => ⟨x, y, d1.bl, d2.bl, q⟩⟩
end
end DL

namespace DL
open PySem PySem.Spec PyProof.Rows L2
/-! ### enumerate of a list or a tuple -/
theorem new_enum {v : Value} {o : Obj} {H0 : Heap → Prop} (B : Begins v o H0) :
    Meets (Builtin.«enumerate.__new__» ⟨[.type "enumerate", v], []⟩) (fun _ R s => H0 s.heap ∧
      R (.ok (.ret (.ref (s.heap.push o).objs.size))) { s with heap := (s.heap.push o).push { cls := .type "enumerate", data := .fields #[.none, .bool false, .ref s.heap.objs.size, rawInt 0, .none, .none] } }) :=
  .of_wp fun prog w A R s h => by
    obtain ⟨hp, g, d, tk, os⟩ := s
    obtain ⟨st, h⟩ := h
    have hsub := sub_enumerate
    have first : ∀ {A' : Around} {E : Value → Shared → Prop} {Q : Value → Shared → Prop}, Q (.ref hp.objs.size) ⟨hp.push o, g, d, tk, os⟩ → wpAny (model prog w) A' (pyIter v) Q E ⟨hp, g, d, tk, os⟩ := fun q => B.iter prog w _ _ ⟨hp, g, d, tk, os⟩ _ st q
    wp_walk using first
    refine wpAny_stack_any fun stk => wpAny_pure ?_
    split
    case h_1 c _ _ _ _ _ => cases (c == Value.type "enumerate") <;> (wp_walk using first; exact ⟨_, rfl, h⟩)
    case h_2 => wp_walk using first; exact ⟨_, rfl, h⟩
theorem enum_one {prog : Program} {w : World} {A : Around} {E : Value → Shared → Prop} {s : Shared} {v : Value} {o : Obj} {H0 : Heap → Prop} {Q : Value → Shared → Prop} (B : Begins v o H0) (st : H0 s.heap)
    (h : ∀ h', IsEnum h' (s.heap.objs.size + 1) s.heap.objs.size 0 .none → h'.get? s.heap.objs.size = some o → (∀ b u, s.heap.get? b = some u → h'.get? b = some u) → Q (.ref (s.heap.objs.size + 1)) { s with heap := h' }) :
    wpAny (model prog w) A (call (.type "enumerate") [v]) Q E s := by
  refine callType_new F.called_enumerate (by decide) (F.typeCall_enumerate_1 _) (F.newCall_enumerate_1 _) (fun obj => F.args_object_init_2 obj _) F.entry_enumerate_new (new_enum B) ⟨st, ?_⟩
  have hz : (s.heap.push o).objs.size = s.heap.objs.size + 1 := Heap.size_push ..
  show _ ∧ _
  rw [hz]
  have he := Heap.get?_push_size (s.heap.push o) (o := { cls := .type "enumerate", data := .fields #[.none, .bool false, .ref s.heap.objs.size, rawInt 0, .none, .none] }) rfl
  rw [hz] at he
  exact ⟨⟨_, he, rfl⟩, h _ he (Heap.get?_push_of_some _ (Heap.get?_push_size _ B.free)) fun b u x => Heap.get?_push_of_some _ (Heap.get?_push_of_some _ x)⟩
def ItE (t : Bool) (n : Nat) (K : PySem.W.Frag) (a : Addr) : It :=
  ⟨fun i H => i < n ∧ ∃ (xs : List V) (x : V), seqB t K H a xs ∧ xs[i]? = some x,
    fun i H v H' => ∃ T x, v = .ref T ∧ H T = none ∧ H' = upd H T (.tup [.int i, x]) ∧ ∀ xs, seqB t K H a xs → xs[i]? = some x,
    fun i H => n ≤ i ∧ ∃ xs : List V, seqB t K H a xs ∧ xs.length = n⟩
theorem turn_enumG {P : Program} {w : World} {K : PySem.W.Frag} {elts : List Expr} {kk n : Nat} {tpos : Pos} (t : Bool) {a e it : Addr} (hei : e ≠ it) (hea : e ≠ a) (hai : a ≠ it) :
    Turn P w K (.Tuple elts kk tpos) (ItE t n K a) [e, it] e (fun i h => i ≤ n ∧ (∃ old, IsEnum h e it (0 + (i : Int)) old) ∧ itB t h it a i) where
  mem := List.mem_cons_self
  obj := fun i h st c hc => by
    obtain ⟨_, ⟨old, he⟩, h1⟩ := st
    simp only [List.mem_cons, List.not_mem_nil, or_false] at hc
    rcases hc with rfl | rfl
    · exact ⟨_, he, fun v q => nomatch q⟩
    · exact itB_obj h1
  keep := fun i h h' st k => by
    obtain ⟨hl, ⟨old, he⟩, h1⟩ := st
    exact ⟨hl, ⟨old, k e (by simp) _ he⟩, itB_at h1 fun o q => k it (by simp) o q⟩
  item := by
    intro X hP hw hK hc i pins s σ H E I hf st hg
    subst hP hw hK
    obtain ⟨hl, he, h1⟩ := st
    obtain ⟨hlt, xs, x, hqx, hx⟩ := hg
    obtain ⟨its, rv, p, _⟩ := invB t I hqx
    obtain ⟨u, hu, ru⟩ := rv.get hx
    have W := WalksT.enumFrom (prog := X.prog) (w := X.w) (A := X.A) 0 (drawsB t (A := X.A.in1) (I.ok.hd hc) it a hai its.toArray) e hei (by simp [hei, hea]) (by simp)
    have hi : i < its.toArray.size := by
      have q1 := (List.getElem?_eq_some_iff.mp hu).1
      simpa using q1
    refine W.item i s _ _ hi ⟨he, h1, p⟩ fun T vals h' tk hP hT hIs hM hk => ?_
    obtain ⟨tt, x1, e1, rfl⟩ := hP
    have e1' : x1 = u := by simpa [hu] using e1.symm
    subst e1'
    refine ⟨_, rfl, W.go elts kk tpos i T { s with heap := h', toks := tk } _ _ hM fun h'' st'' hk2 => ?_⟩
    have hTw := W.apart i T h' hM
    have hIs2 : h''.IsTuple T #[.int (0 + (i : Int)) tt, x1] := hIs.at fun o q => hk2 T o hTw q
    have ri : RelV (.int (i : Int)) (.int (0 + (i : Int)) tt) := ⟨tt, by rw [Int.zero_add]⟩
    have new : ObjOk X.prog X.w (upd H T (.tup [.int (i : Int), x])) h'' T (.tup [.int (i : Int), x]) := ⟨by show 2 ≤ sizeLine; decide, [.int (0 + (i : Int)) tt, x1], .cons ri (.cons ru .nil), hIs2⟩
    have kept : ∀ b o, b ∉ [e, it] → s.heap.get? b = some o → h''.get? b = some o := fun c o hc q => hk2 c o hc (hk c o hc q)
    have I1 : Inv X pins σ (upd H T (.tup [.int (i : Int), x])) { s with heap := h'', toks := tk } := I.turnedNew kept hf hT new
    obtain ⟨he2, h12, _⟩ := st''
    refine ⟨.ref T, _, I1, rfl, ⟨T, x, rfl, I.hok.fresh hT, rfl, fun l hq => by rw [injB t I hq hqx]; exact hx⟩, ⟨hlt, he2, h12⟩, fun c hcm => ?_⟩
    have hne : c ≠ T := fun q => hTw (by rw [← q]; exact hcm)
    rw [upd_ne hne]
    exact (hf c hcm).1
  done := by
    intro X hP hw hK hc i pins s σ H E I hf st hg
    subst hP hw hK
    obtain ⟨hl, he, h1⟩ := st
    obtain ⟨hge, xs, hqx, hn⟩ := hg
    obtain ⟨its, rv, p, _⟩ := invB t I hqx
    have W := WalksT.enumFrom (prog := X.prog) (w := X.w) (A := X.A) 0 (drawsB t (A := X.A.in1) (I.ok.hd hc) it a hai its.toArray) e hei (by simp [hei, hea]) (by simp)
    have hi : i = its.toArray.size := by
      have q1 := rv.length
      simp only [List.size_toArray]
      omega
    subst hi
    exact W.done s _ _ ⟨he, h1, p⟩ fun h' tk hk => ⟨rfl, I.turnedL (ch := [e, it]) hk hf⟩
  self := fun A i s Q E st h => by
    obtain ⟨_, ⟨old, he⟩, _⟩ := st
    exact wpAny_pyIter_enum he h
def iEnumG (t : Bool) (K : PySem.W.Frag) (ta : TA) : TI := fun σ H R => ta σ H fun vs H1 => ∃ a xs, vs = [.ref a] ∧ seqB t K H1 a xs ∧ R (ItE t xs.length K a) H1
theorem pi_enumG {X : Cx} {e : Expr} {ta : TA} {p pos tpos : Pos} {elts : List Expr} {kk : Nat} (t : Bool) (hg : Gl X "enumerate") (hm : X.mg "enumerate" = none) (ha : PA X [e] ta)
    (hs : starEach [e] X.env = [(false, eval e X.env)] := by rfl) : PI X (.Tuple elts kk tpos) (.Call (.Name "enumerate" p) [e] [] pos) (iEnumG t X.K ta) := ⟨fun pins s σ H R I h => by
  refine Call_ (ld_blt I hg hm boot_enumerate (callWith_type1 (thn (ha.run pos pins s σ H _ I h) fun us s1 ⟨vs, H1, I1, r1, q1⟩ => ?_) hs rfl))
  obtain ⟨a, xs, rfl, hqx, q⟩ := q1
  obtain ⟨u1, rfl, r9⟩ : ∃ u1, us = [u1] ∧ RelV (.ref a) u1 := by
    cases r1 with
    | cons r rr => cases rr; exact ⟨_, rfl, r⟩
  have e1 : u1 = .ref a := r9
  subst e1
  obtain ⟨its, rv, p1, la⟩ := invB t I1 hqx
  refine enum_one (beginsB t a its.toArray) p1 fun h' he g1 hk => wpAny_pyIter_enum he ?_
  refine ⟨_, _, _, _, H1, rfl, I1.kept (t' := s1.toks) hk, turn_enumG t (Nat.succ_ne_self _) (Nat.ne_of_gt (Nat.lt_succ_of_lt la)) (Nat.ne_of_lt la), ⟨Nat.zero_le _, ⟨.none, he⟩, itB_new g1⟩, fun c hc => ?_, q⟩
  have hle : s1.heap.objs.size ≤ c := by
    simp only [List.mem_cons, List.not_mem_nil, or_false] at hc
    rcases hc with rfl | rfl <;> first | exact Nat.le_add_right _ _ | exact Nat.le_refl _
  exact I1.fpOk hle (I1.hok.fresh hle)⟩
variable {X : Cx} {J : Jx}
/-- the items with their indexes -/
def enm {α : Type} (xs : List α) : List (Int × α) := (rng 0 xs.length).zip xs
theorem enm_get {α : Type} {xs : List α} {i : Nat} (h : i < xs.length) : (enm xs)[i]? = some ((i : Int), xs[i]) := by
  unfold enm
  rw [(List.getElem?_zip_eq_some (z := ((i : Int), xs[i]))).mpr ⟨by rw [rng_get (by omega)]; simp, List.getElem?_eq_getElem h⟩]
theorem enm_len {α : Type} (xs : List α) : (enm xs).length = xs.length := by unfold enm; rw [List.length_zip, rng_len]; omega
section
variable {α β β' γ δ ρ κ ι : Type} {S : List Sl} {N : β → List Sl} {L : γ → List Sl} {R : ρ → RV} {enc : α → D} {enb : β → D} {enk : κ → D} {enl : ι → D} {tg a b c e e2 : Expr} {es : List Expr} {pos p tpos : Pos} {k j kk : Nat} {rest body : List Stmt}
theorem i_enum {t : Bool} {g1 : κ → List α} {es : List Expr} {m : M κ} (q1 : SqE X J t enk enc g1) (hg : Gl X "enumerate") (hm : X.mg "enumerate" = none) (ha : PA X [e] (tCons (tE X J S enk m) tNil)) (hs : starEach [e] X.env = [(false, eval e X.env)] := by rfl) :
    DI X J S (.Tuple es kk tpos) (.Call (.Name "enumerate" p) [e] [] pos) (eP2 eI enc) (mb m fun x => .ok (enm (g1 x))) :=
  pi_imp (pi_enumG t hg hm ha hs) fun σ H Q ⟨G, own, ok, fin⟩ => E_bind FinI.wish ok fin fun x v G1 H1 gr1 ok1 d r => by
    obtain ⟨a, xs, rfl, s1, l1⟩ := q1 x v G1 d
    have n1 := l1.length
    rw [List.length_map] at n1
    refine ⟨a, xs, rfl, s1 _ ok1.gh, r _ G1 H1 (Grow.refl ok1.gh) fun i H3 G3 h0 h1 h2 => ⟨fun dd hd => ?_, fun hl => ?_⟩⟩
    · obtain ⟨hlt, ed⟩ := List.getElem?_eq_some_iff.mp hd
      rw [List.length_map, enm_len] at hlt
      rw [List.getElem?_map, enm_get hlt] at hd
      cases hd
      obtain ⟨w1, f1, f2⟩ := l1.get (i := i) (d := enc (g1 x)[i]) (by rw [List.getElem?_map, List.getElem?_eq_getElem hlt]; rfl)
      have p1 := s1 H3 (fun b o e => h2 _ _ (h1 _ _ e))
      refine ⟨⟨by omega, xs, w1, p1, f1⟩, fun z H4 ⟨T, x', e1, e2, e3, e4⟩ => ?_⟩
      subst e1 e3
      have e6 := e4 xs p1
      rw [f1] at e6; cases e6
      refine ⟨_, Grow.alloc h2 e2, ?_⟩
      have sg := same_upd (o := .tup [.int (i : Int), w1]) (Same.free h2 e2)
      exact .tup (.of upd_same) (.cons (.int _) (.cons ((f2.mono h1).mono sg) .nil))
    · rw [List.length_map, enm_len] at hl
      exact ⟨by omega, xs, s1 H3 (fun b o e => h2 _ _ (h1 _ _ e)), rfl⟩
/-- of a lent list by its name -/
theorem i_enumL {es : List Expr} {x : Str} {px : Pos} {z : List α} (i : Nat) (hs : S[i]? = some (.ln (z.map enc))) (hp : PE X (.Name x px) (tVar i)) (hg : Gl X "enumerate") (hm : X.mg "enumerate" = none) (hst : starEach [.Name x px] X.env = [(false, eval (.Name x px) X.env)] := by rfl) :
    DI X J S (.Tuple es kk tpos) (.Call (.Name "enumerate" p) [.Name x px] [] pos) (eP2 eI enc) (.ok (enm z)) :=
  pi_imp (pi_enumG false hg hm (pa_cons hp pa_nil hst) hst) fun σ H Q ⟨G, own, ok, fin⟩ => by
    obtain ⟨q, vs, h1, h2, h3⟩ := ok.sl i _ hs
    have hq := ok.h0 _ _ h2
    have n1 := h3.length
    rw [List.length_map] at n1
    refine ⟨.ref q, h1, q, vs, rfl, SqL.of hq, fin _ G H (Grow.refl ok.gh) fun i H3 G3 h0 g1 g2 => ⟨fun dd hd => ?_, fun hl => ?_⟩⟩
    · obtain ⟨hlt, ed⟩ := List.getElem?_eq_some_iff.mp hd
      rw [List.length_map, enm_len] at hlt
      rw [List.getElem?_map, enm_get hlt] at hd
      cases hd
      obtain ⟨w1, f1, f2⟩ := h3.get (i := i) (d := enc z[i]) (by rw [List.getElem?_map, List.getElem?_eq_getElem hlt]; rfl)
      have p1 : seqB false X.K H3 q vs := SqL.of (h0 _ _ h2)
      refine ⟨⟨by omega, vs, w1, p1, f1⟩, fun y H4 ⟨T, x', e1, e2, e3, e4⟩ => ?_⟩
      subst e1 e3
      have e6 := e4 vs p1
      rw [f1] at e6; cases e6
      refine ⟨_, Grow.alloc g2 e2, ?_⟩
      have sg := same_upd (o := .tup [.int (i : Int), w1]) (Same.free g2 e2)
      exact .tup (.of upd_same) (.cons (.int _) (.cons ((f2.mono g1).mono sg) .nil))
    · rw [List.length_map, enm_len] at hl
      exact ⟨by omega, vs, SqL.of (h0 _ _ h2), rfl⟩
/-! ### a < b < c -/
theorem t_chain {enc' : κ → D} {op op' : CmpOp} {t : α → β → Bool} {t' : β → κ → Bool} {m : M α} {n : M β} {o : M κ} (h1 : CmpD X J op enc enb t) (h2 : CmpD X J op' enb enc' t') (ha : DB X J S a enc m) (hb : DB X J S b enb n) (hc : DB X J S c enc' o)
    (hm : lastMarks [op, op'] [b, c] = false := by with_unfolding_all rfl) : DT X J S (.Compare a [op, op'] [b, c] pos) (mb m fun x => mb n fun y => if t x y = true then mb o fun z => .ok (t' y z) else .ok false) := by
  obtain ⟨r, ho, hr⟩ := h1
  obtain ⟨r', ho', hr'⟩ := h2
  exact pt_imp (pt_chain ho ho' ha hb hc hm) fun σ H Q ⟨G, own, ok, fin⟩ => B_bind FinT.wish ok fin fun x v G1 H1 g1 ok1 d1 r1 => B_bind FinT.wish ok1 r1 fun y u G2 H2 g2 ok2 d2 r2 => by
    refine hr x y v u G2 H2 own _ ok2.gh (d1.grow g2) d2 ⟨_, rfl, ?_⟩
    by_cases q : t x y = true
    · rw [if_pos q] at r2 ⊢
      exact B_bind FinT.wish ok2 r2 fun z w G3 H3 g3 ok3 d3 r3 => hr' y z u w G3 H3 own _ ok3.gh (d2.grow g3) d3 ⟨_, rfl, r3 G3 H3 (Grow.refl ok3.gh)⟩
    · rw [if_neg q] at r2 ⊢
      exact ⟨_, rfl, r2 G2 H2 (Grow.refl ok2.gh)⟩
/-! ### x.pop(i) -/
def popAtM (xs : List α) (i : Int) : M (α × List α) := if 0 ≤ i ∧ i < 2 ^ 62 then (match xs[i.toNat]? with
  | some x => .ok (x, xs.eraseIdx i.toNat)
  | none => .no) else .no
theorem DenL.erase {K : PySem.W.Frag} {ca : Str → Addr} {H : Hp} : ∀ {vs : List V} {ds : List D} (n : Nat), DenL K ca H vs ds → DenL K ca H (vs.eraseIdx n) (ds.eraseIdx n)
  | _, _, _, .nil => .nil
  | _, _, 0, .cons _ t => t
  | _, _, n + 1, .cons h t => .cons h (DenL.erase n t)
theorem seqIx {i : Int} {n : Nat} (h : 0 ≤ i) (h2 : i.toNat < n) : seqIndex? i n = some i.toNat := by
  have h3 : ¬ i < 0 := by omega
  have h4 : i < (n : Int) := by omega
  simp [seqIndex?, h3, h, h4]
theorem popAt_of {G H : Hp} {own : Addr → Option Nat} {σ : L2.St} {i : Nat} {xs : List α} {q : Addr} {vs : List V} {y : α} {ys : List α} {ix : Int} (ok : OkX X J G H own σ S) (h1 : σ[i]? = some (some (.ref q))) (h2 : own q = some i) (h3 : H q = some (.lst vs)) (h4 : DenL X.K J.ca G vs (xs.map enc)) (hy : popAtM xs ix = .ok (y, ys)) :
    ∃ v, 0 ≤ ix ∧ ix < 2 ^ 62 ∧ seqIndex? ix vs.length = some ix.toNat ∧ vs[ix.toNat]? = some v ∧ Den X.K J.ca G v (enc y) ∧ OkX X J G (upd H q (.lst (vs.eraseIdx ix.toNat))) own σ (S.set i (.ow (ys.map enc))) := by
  have hl := h4.length
  rw [List.length_map] at hl
  unfold popAtM at hy
  split at hy
  · rename_i hb
    split at hy
    · rename_i x hx
      cases hy
      obtain ⟨v, e1, e2⟩ := h4.get (i := ix.toNat) (d := enc y) (by rw [List.getElem?_map, hx]; rfl)
      refine ⟨v, hb.1, hb.2, seqIx hb.1 ?_, e1, e2, ok.mut h3 h2 ?_ h1⟩
      · exact (List.getElem?_eq_some_iff.mp e1).1
      · have em : ∀ (zs : List α) (n : Nat), (zs.eraseIdx n).map enc = (zs.map enc).eraseIdx n := fun zs => by
          induction zs with
          | nil => intro n; rfl
          | cons z zs ih =>
            intro n
            cases n with
            | zero => rfl
            | succ n => show enc z :: (zs.eraseIdx n).map enc = enc z :: (zs.map enc).eraseIdx n; rw [ih]
        rw [em]
        exact DenL.erase _ h4
    · cases hy
  · cases hy
theorem popAt_er {xs : List α} {ix : Int} {z : Ex} (h : popAtM xs ix = .er z) : False := by
  unfold popAtM at h
  split at h
  · split at h <;> cases h
  · cases h
theorem ss_popAt {f : List α → M (Out β γ ρ)} {mi : M Int} {xs : List α} {x : Str} {ie : Expr} {px p2 pos2 : Pos} (i : Nat) (hs : S[i]? = some (.ow (xs.map enc))) (hr : ∀ ys, DSs X J (S.set i (.ow (ys.map enc))) rest N L R (f ys)) (hw : Wk S J.Sx)
    (hb : PE X (.Call (.Attribute (.Name x px) "pop" p2) [ie] [] pos2) (tBM X.K "list" rPopAt (tVar i) (tCons (tE X J S eI mi) tNil)))
    (hsw : swapsWith (.Call (.Attribute (.Name x px) "pop" p2) [ie] [] pos2) none pos.line X.env = pure false := by rfl) :
    DSs X J S (.Expr (.Call (.Attribute (.Name x px) "pop" p2) [ie] [] pos2) pos :: rest) N L R (mb mi fun j => mb (popAtM xs j) fun y => f y.2) :=
  pss_imp (pss_cons (ps_expr hb hsw) (pss_ex hr)) fun Dn σ H ⟨G, own, ok, fin⟩ => by
    obtain ⟨q, vs, h1, h2, h3, h4⟩ := ok.sl i _ hs
    refine ⟨.ref q, h1, .inl ⟨rfl, _, SqL.of h3⟩, ?_⟩
    refine E_bind (FinS.wish hw) ok ⟨fin, ok⟩ fun ix v G1 H1 g ok1 d r => ?_
    cases d
    have hq := g.h _ _ h3
    have r1 := r.1
    cases hy : popAtM xs ix with
    | no => rw [hy] at r1; exact r1.elim
    | er z => exact (popAt_er hy).elim
    | ok y =>
      rw [hy] at r1
      obtain ⟨v, e0, e00, e1, e2, e3, ok2⟩ := popAt_of ok1 h1 h2 hq (h4.mono g.g) hy
      exact ⟨q, vs, ix, ix.toNat, v, rfl, rfl, hq, by omega, by omega, e1, e2, _, G1, own, ok2, r1⟩
/-- y.append(x.pop(i)) -/
theorem ss_appPop {f : List α → List α → M (Out β γ ρ)} {mi : M Int} {xs zs : List α} {x y : Str} {ie : Expr} {px py p2 p3 pos2 pos3 : Pos} (i l : Nat) (hil : i ≠ l) (hs : S[i]? = some (.ow (xs.map enc))) (hs2 : S[l]? = some (.ow (zs.map enc)))
    (hr : ∀ ys ws, DSs X J ((S.set i (.ow (ys.map enc))).set l (.ow (ws.map enc))) rest N L R (f ys ws)) (hw : Wk S J.Sx)
    (hb : PE X (.Call (.Attribute (.Name y py) "append" p3) [.Call (.Attribute (.Name x px) "pop" p2) [ie] [] pos2] [] pos3) (tBM X.K "list" rAppend (tVar l) (tCons (tBM X.K "list" rPopAt (tVar i) (tCons (tE X J S eI mi) tNil)) tNil)))
    (hsw : swapsWith (.Call (.Attribute (.Name y py) "append" p3) [.Call (.Attribute (.Name x px) "pop" p2) [ie] [] pos2] [] pos3) none pos.line X.env = pure false := by rfl) :
    DSs X J S (.Expr (.Call (.Attribute (.Name y py) "append" p3) [.Call (.Attribute (.Name x px) "pop" p2) [ie] [] pos2] [] pos3) pos :: rest) N L R (mb mi fun j => mb (popAtM xs j) fun q => mb (app zs q.1) fun ws => f q.2 ws) :=
  pss_imp (pss_cons (ps_expr hb hsw) (pss_ex fun ys : List α => pss_ex fun ws : List α => hr ys ws)) fun Dn σ H ⟨G, own, ok, fin⟩ => by
    obtain ⟨q, vs, h1, h2, h3, h4⟩ := ok.sl i _ hs
    obtain ⟨q', vs', h1', h2', h3', h4'⟩ := ok.sl l _ hs2
    refine ⟨.ref q', h1', .inl ⟨rfl, _, SqL.of h3'⟩, .ref q, h1, .inl ⟨rfl, _, SqL.of h3⟩, ?_⟩
    refine E_bind (FinS.wish hw) ok ⟨fin, ok⟩ fun ix v G1 H1 g ok1 d r => ?_
    cases d
    have hq := g.h _ _ h3
    have hq' := g.h _ _ h3'
    have r1 := r.1
    cases hy : popAtM xs ix with
    | no => rw [hy] at r1; exact r1.elim
    | er z => exact (popAt_er hy).elim
    | ok y =>
      rw [hy, mb_ok] at r1
      obtain ⟨v, e0, e00, e1, e2, e3, ok2⟩ := popAt_of ok1 h1 h2 hq (h4.mono g.g) hy
      refine ⟨q, vs, ix, ix.toNat, v, rfl, rfl, hq, by omega, by omega, e1, e2, ?_⟩
      have hl := h4'.length
      rw [List.length_map] at hl
      by_cases hz : zs.length < line
      · rw [app_ok hz, mb_ok] at r1
        have hne : q' ≠ q := fun z => by rw [z, h2] at h2'; exact hil (Option.some.inj h2')
        have hq2 : (upd H1 q (.lst (vs.eraseIdx ix.toNat))) q' = some (.lst vs') := by rw [upd_ne hne]; exact hq'
        have dl : DenL X.K J.ca G1 (vs' ++ [v]) ((zs ++ [y.1]).map enc) := by
          rw [List.map_append]
          exact (h4'.mono g.g).append (.cons e3 .nil)
        exact ⟨q', vs', v, rfl, rfl, hq2, by rw [hl]; exact Nat.lt_of_lt_of_le hz line_le, y.2, _, G1, own, ok2.mut hq2 h2' dl h1', r1⟩
      · unfold app at r1
        rw [if_neg hz] at r1
        exact r1.elim
/-! ### f(e, .., k = v, ..): the exceptions' wish may hang on the slots -/
theorem run_kw {X : Cx} {CX : CXT} {n : Nat} {f : Addr} {fd : FuncData} {ps ks : List Str} {sp : Sp} {E : XK} {g : List Value → List Value → List Value} {gV : List V → List V → List V} {pins : List (Addr × Obj)} {σ : L2.St} {H : Hp} {s : Shared} {Q : VK} {us ws : List Value} {vs zs : List V}
    (F : FnOk X.prog X.w X.K X.mg X.base CX k f fd ps sp) (hr : Room k X.A) (hb : KBn X.K fd ps n ks g gV) (hx : PassesAt CX X σ E) (I : Inv X pins σ H s) (r : Vals vs us) (rz : Vals zs ws) (l1 : us.length = n) (l2 : ws.length = ks.length) (h : sp (gV vs zs) H Q E) :
    wpAny (model X.prog X.w) X.A (call (.ref f) us (ks.zip ws)) (EP X pins σ Q) X.xe s := by
  have run := F.run X.A X.stack s H ⟨us, ks.zip ws⟩ (g us ws) (gV vs zs) Q E hr I.env0 (hb.to s us ws I.kIn l1 l2) (hb.rel r rz) h
  refine wpAny_call (codeAny_mono run fun res s' hq => ?_)
  match res, hq with
  | .ok (.ret u), hq => exact I.after hq
  | .error e, hq => exact hx pins H s e s' I hq
  | .ok .next, hq => exact hq.elim
  | .ok .brk, hq => exact hq.elim
  | .ok .cont, hq => exact hq.elim
theorem e_callK {enr : ρ → D} {f : Addr} {fd : FuncData} {ps ks : List Str} {x : Str} {n : Nat} {gV : List V → List V → List V} {encA : κ → List Sl} {code : κ → M ρ} {encs : α → List Sl} {enk : β → List Sl} {ma : M α} {mk : M β} {mkA : α → β → κ} {kws : List Keyword}
    (C : CxD X J k) (hj : j ≤ k) (F : FnOk X.prog X.w X.K X.mg X.base (L2N.CX X.prog X.w) j f fd ps (spE X.K J.ca encA enr code)) (hm : X.mg x = some (.ref f)) (hkp : PySem.W.keepIn X.K (.ref f) = true) (hb : ∃ g, KBn X.K fd ps n ks g gV)
    (ha : DX X J S (e :: es) encs ma) (hk : DK X J S kws enk mk) (hn : ∀ z, (encs z).length = n) (hn2 : ∀ z, (enk z).length = ks.length)
    (hA : ∀ (G H : Hp) (vs zs : List V) (z : α) (y : β), ArgL X.K J.ca G H vs (encs z) → ArgL X.K J.ca G H zs (enk y) → ArgL X.K J.ca G H (gV vs zs) (encA (mkA z y)))
    (hg : Gl X x := by rfl) (hall : (backToKw pos (keywordEach kws X.env)).all (·.1.isSome) = true := by rfl) (hks : (backToKw pos (keywordEach kws X.env)).filterMap (·.1) = ks := by rfl)
    (hdb : (x == ("__debug__" : Str)) = false := by decide) (he : starEach (e :: es) X.env = (false, eval e X.env) :: starEach es X.env := by rfl)
    (hpl : ((backTo pos (starEach (e :: es) X.env)).any (·.1) || (backToKw pos (keywordEach kws X.env)).any (·.1.isNone)) = false := by rfl) :
    DE X J S (.Call (.Name x p) (e :: es) kws pos) enr (mb ma fun z => mb mk fun y => code (mkA z y)) := by
  obtain ⟨g, hb⟩ := hb
  refine ⟨fun pins s σ H Q I ⟨G, own, ok, fin⟩ => ?_⟩
  refine wpAny_Call_Name_kw (ld_glob I hg hm ?_ hdb)
  have ta := X_bind (X := X) (J := J) (f := fun z => mb mk fun y => code (mkA z y)) (Fin.wish (enc := enr) (Q := Q)) ok fin
    (P := fun vs H1 => ∃ z G1, OkX X J G1 H1 own σ S ∧ ArgL X.K J.ca G1 H1 vs (encs z) ∧ Fin X J enr (mb mk fun y => code (mkA z y)) σ G1 H1 Q)
    fun z vs G1 H1 g1 ok1 d r => ⟨z, G1, ok1, d, r⟩
  refine PySem.W.callWith_KW (h₀ := X.base) I.ok.mod.kin hkp hall (thn (ha.run pos pins s σ H _ I ta) fun us s1 ⟨vs, H1, I1, r1, z, G1, ok1, d1, fin1⟩ => ?_) hpl he
  have tk := X_bind (X := X) (J := J) (f := fun y => code (mkA z y)) (Fin.wish (enc := enr) (Q := Q)) ok1 fin1
    (P := fun zs H2 => ∃ y G2, OkX X J G2 H2 own σ S ∧ Grow G1 H1 G2 H2 ∧ ArgL X.K J.ca G2 H2 zs (enk y) ∧ Fin X J enr (code (mkA z y)) σ G2 H2 Q)
    fun y zs G2 H2 g2 ok2 d r => ⟨y, G2, ok2, g2, d, r⟩
  refine thn (hk.run pos pins s1 σ H1 _ I1 tk) fun ws s2 ⟨zs, H2, I2, rz, y, G2, ok2, g2, d2, fin2⟩ => ⟨I2.kIn, ?_⟩
  rw [hks]
  have dv := d1.mono g2.g g2.h
  refine run_kw (F.mono hj) C.room hb (L2N.passAt C.tk σ) I2 r1 rz (by show us.length = n; rw [← r1.length, dv.length, hn]) (by rw [← rz.length, d2.length, hn2]) ?_
  refine ⟨mkA z y, G2, ok2.gh, hA G2 H2 vs zs z y dv d2, ?_⟩
  cases hc : code (mkA z y) with
  | ok r => rw [hc] at fin2; show spR X.K J.ca G2 H2 (mb (code (mkA z y)) _) Q _; rw [hc]; exact fun v G' H' g dv => fin2 v G' H' g dv
  | er q => rw [hc] at fin2; show spR X.K J.ca G2 H2 (mb (code (mkA z y)) _) Q _; rw [hc]; exact fun cls dd G' H' g ra => fin2 cls dd G' H' g ra
  | no => rw [hc] at fin2; exact fin2.elim
/-- the arguments of a call by keywords; of one that leaves its keyword-only parameters out -/
theorem ak {K : PySem.W.Frag} {ca : Str → Addr} {e1 : α → List Sl} {e2 : β → List Sl} {e3 : κ → List Sl} {mk : α → β → κ} (h : ∀ z y, e3 (mk z y) = e1 z ++ e2 y) (G H : Hp) (vs zs : List V) (z : α) (y : β) (h1 : ArgL K ca G H vs (e1 z)) (h2 : ArgL K ca G H zs (e2 y)) : ArgL K ca G H (vs ++ zs) (e3 (mk z y)) := by
  rw [h]
  have app : ∀ {us : List V} {ss : List Sl}, ArgL K ca G H us ss → ArgL K ca G H (us ++ zs) (ss ++ e2 y) := by
    intro us ss q
    induction q with
    | nil => exact h2
    | cons d t ih => exact .cons d ih
    | consL p d t ih => exact .consL p d ih
  exact app h1
theorem akd {K : PySem.W.Frag} {ca : Str → Addr} {e1 : α → List Sl} {e2 : β → List Sl} {e3 : κ → List Sl} {mk : α → β → κ} {ds : List D} {vs0 : List V} (hd : ∀ {G : Hp}, DenL K ca G vs0 ds) (h : ∀ z y, e3 (mk z y) = e1 z ++ ds.map Sl.fr) (G H : Hp) (vs zs : List V) (z : α) (y : β) (h1 : ArgL K ca G H vs (e1 z)) (_h2 : ArgL K ca G H zs (e2 y)) : ArgL K ca G H (vs ++ vs0) (e3 (mk z y)) := by
  rw [h]
  have app : ∀ {us : List V} {ss : List Sl}, ArgL K ca G H us ss → ArgL K ca G H (us ++ vs0) (ss ++ ds.map Sl.fr) := by
    intro us ss q
    induction q with
    | nil => exact ArgL.of hd
    | cons d t ih => exact .cons d ih
    | consL p d t ih => exact .consL p d ih
  exact app h1
end
/-- a def with defaults, all its parameters given -/
theorem fn_okD {P : Program} {w : World} {K : PySem.W.Frag} {mg : Str → Option Value} {base : Heap} {x qual : Str} {params : Arguments} {bd : List Stmt} {sc : Scope} {dvs : List V} {kws : List (Str × V)} {f : Addr} {fd : FuncData} {N ps : List Str} {k n : Nat} {ca : Str → Addr} {α β γ ρ : Type} {encA : α → List Sl} {R : ρ → RV} {Nx : α → β → List Sl} {L : α → γ → List Sl} {code : α → M (Out β γ ρ)}
    (F : FunD K x qual params bd sc dvs kws f fd) (S : FnScope N ps sc) (hl : ∀ a, (encA a).length = ps.length) (hn : ps.length + n = N.length)
    (hb : ∀ (cdv : Value) (A : Around) (outer : List Env) (s : Shared) (G H : Hp) (E : XK) (a : α), CxD (cxOf (L2N.CX P w) P w K mg base N qual sc f cdv A outer s H E) (jx ca E G H) k →
      DSs (cxOf (L2N.CX P w) P w K mg base N qual sc f cdv A outer s H E) (jx ca E G H) (encA a ++ List.replicate n .un) bd (Nx a) (L a) R (code a)) :
    FnOk P w K mg base (L2N.CX P w) (k + 1) f fd ps (spF K ca encA fun a => fnO R (code a)) := by
  obtain ⟨oc, od, dV, kV, doc, pm, an, cdv, ct, osl, rfl, lk, hcd, _, _⟩ := F.ex
  refine fn_of lk hcd S (fun vs H Q E ⟨a, G, e, d, r⟩ => by rw [d.length, hl a]) fun A outer s H vs Q E hr ⟨a, G, e, d, r⟩ => ?_
  have C : CxD (cxOf (L2N.CX P w) P w K mg base N qual sc f cdv A outer s H E) (jx ca E G H) k :=
    ⟨rfl, L2N.takes_of rfl rfl rfl rfl, passes_of rfl, hr, S.nd⟩
  refine ⟨_, hb cdv A outer s G H E a C, G, _, ok_start e d (by rw [hl a]; omega), ?_⟩
  have r' : spR K ca G H (fnO R (code a)) Q E := r
  cases hc : code a with
  | ok o =>
    rw [hc] at r'
    cases o with
    | nx b => exact fun σ' G' H' own' sg ok' => r' .non G' H' ok'.base .non
    | rt q =>
      have r2 : spR K ca G H (.ok (R q)) Q E := r'
      show RtK _ _ (R q) Q
      cases hR : R q with
      | fr d => rw [hR] at r2; exact r2
      | ow ds => rw [hR] at r2; exact fun p vs G' H' g h1 h2 h3 h4 => r2 p vs G' H' g h1 h2 h3 h4
      | op ds d => rw [hR] at r2; exact fun t p u vs G' H' g h1 h2 h3 h4 h5 h6 => r2 t p u vs G' H' g h1 h2 h3 h4 h5 h6
    | bk c => exact r'.elim
    | ct c => exact r'.elim
  | er x =>
    rw [hc] at r'
    exact fun cls d σ' G' H' own' sg ok' ra => r' cls d G' H' ok'.base ra
  | no => rw [hc] at r'; exact r'.elim
end DL

namespace DL
open PySem PySem.Spec PyProof.Rows L2 PySem.W
variable {X : Cx} {J : Jx}
/-! ### max(t), min(t), t a tuple of ints: max_tuple_datum, min_tuple_datum -/
section
variable {S : List Sl} {a : Expr} {pos p : Pos}
theorem maxOf_eq : ∀ (xs : List Int) (x : Int), maxOf x xs = xs.foldl max x
  | [], _ => rfl
  | y :: xs, x => by
    have ih := maxOf_eq xs (max x y)
    unfold maxOf at ih ⊢
    rw [List.foldl_cons, List.foldl_cons, ← ih]
    congr 1
    show (if decide (x < y) = true then y else x) = max x y
    by_cases q : x < y
    · rw [if_pos (decide_eq_true q), Int.max_eq_right (Int.le_of_lt q)]
    · rw [if_neg (by simpa using q), Int.max_eq_left (by omega)]
theorem minOf_eq : ∀ (xs : List Int) (x : Int), minOf x xs = xs.foldl min x
  | [], _ => rfl
  | y :: xs, x => by
    have ih := minOf_eq xs (min x y)
    unfold minOf at ih ⊢
    rw [List.foldl_cons, List.foldl_cons, ← ih]
    congr 1
    show (if decide (y < x) = true then y else x) = min x y
    by_cases q : y < x
    · rw [if_pos (decide_eq_true q), Int.min_eq_right (Int.le_of_lt q)]
    · rw [if_neg (by simpa using q), Int.min_eq_left (by omega)]
theorem cr_maxT (hc : X.calm = true) (hu : X.A.units + 64 < cLine) : CallR X (.builtin "max") (fun vs H Q => ∃ (a : Addr) (x : Int) (xs : List Int), vs = [V.ref a] ∧ SqT X.K H a ((x :: xs).map V.int) ∧ Q (.int (xs.foldl max x)) H) := by
  intro pins s σ H vs us Q I r h
  obtain ⟨a, x, xs, rfl, hs, q⟩ := h
  obtain ⟨its, rv, hl, _⟩ := I.tuple hs
  rw [Vals.ref1 r]
  refine max_tuple_datum (x := x) (xs := xs) (I.ok.hd hc) hl (HoldAll.of_ints rv.ints) (by show _ + 1 + 0 < cLine; omega) fun i v h' tk hi hh hk => ?_
  obtain ⟨as, rd⟩ := hh
  rw [maxOf_eq] at rd
  cases rd with
  | int n t => exact ⟨.int _, H, I.kept hk, ⟨_, rfl⟩, q⟩
theorem cr_minT (hc : X.calm = true) (hu : X.A.units + 64 < cLine) : CallR X (.builtin "min") (fun vs H Q => ∃ (a : Addr) (x : Int) (xs : List Int), vs = [V.ref a] ∧ SqT X.K H a ((x :: xs).map V.int) ∧ Q (.int (xs.foldl min x)) H) := by
  intro pins s σ H vs us Q I r h
  obtain ⟨a, x, xs, rfl, hs, q⟩ := h
  obtain ⟨its, rv, hl, _⟩ := I.tuple hs
  rw [Vals.ref1 r]
  refine min_tuple_datum (x := x) (xs := xs) (I.ok.hd hc) hl (HoldAll.of_ints rv.ints) (by show _ + 1 + 0 < cLine; omega) fun i v h' tk hi hh hk => ?_
  obtain ⟨as, rd⟩ := hh
  rw [minOf_eq] at rd
  cases rd with
  | int n t => exact ⟨.int _, H, I.kept hk, ⟨_, rfl⟩, q⟩
theorem e_maxT {m : M (List Int)} (hc : X.calm = true) (hu : X.A.units + 64 < cLine) (hm : X.mg "max" = none) (h : PA X [a] (tCons (tE X J S (eT eI) m) tNil)) (hg : Gl X "max" := by rfl)
    (he : starEach (a :: []) X.env = (false, eval a X.env) :: starEach [] X.env := by rfl) (hpl : (backTo pos (starEach [] X.env)).any (·.1) = false := by rfl) : DE X J S (.Call (.Name "max" p) [a] [] pos) eI (mb m fun xs => maxI xs) :=
  pe_imp (pe_callB (cr_maxT hc hu) hg hm (by decide +kernel) h (by decide) (by decide) he hpl) fun σ H Q ⟨G, own, ok, fin⟩ => E_bind Fin.wish ok fin fun xs v G1 H1 g ok1 d r => by
    obtain ⟨q, vs, rfl, h1, h2⟩ := Den.tuple (X := X) ok1.gh d
    rw [DenL.ints h2] at h1
    cases xs with
    | nil => exact r.elim
    | cons x xs => exact ⟨q, x, xs, rfl, h1, r _ G1 H1 (Grow.refl ok1.gh) (.int _)⟩
theorem e_minT {m : M (List Int)} (hc : X.calm = true) (hu : X.A.units + 64 < cLine) (hm : X.mg "min" = none) (h : PA X [a] (tCons (tE X J S (eT eI) m) tNil)) (hg : Gl X "min" := by rfl)
    (he : starEach (a :: []) X.env = (false, eval a X.env) :: starEach [] X.env := by rfl) (hpl : (backTo pos (starEach [] X.env)).any (·.1) = false := by rfl) : DE X J S (.Call (.Name "min" p) [a] [] pos) eI (mb m fun xs => minI xs) :=
  pe_imp (pe_callB (cr_minT hc hu) hg hm (by decide +kernel) h (by decide) (by decide) he hpl) fun σ H Q ⟨G, own, ok, fin⟩ => E_bind Fin.wish ok fin fun xs v G1 H1 g ok1 d r => by
    obtain ⟨q, vs, rfl, h1, h2⟩ := Den.tuple (X := X) ok1.gh d
    rw [DenL.ints h2] at h1
    cases xs with
    | nil => exact r.elim
    | cons x xs => exact ⟨q, x, xs, rfl, h1, r _ G1 H1 (Grow.refl ok1.gh) (.int _)⟩
end
end DL

namespace DL
open PySem PySem.Spec PyProof.Rows L2
variable {X : Cx} {J : Jx}
/-! ### xs.index(k), xs a list of ints: MeetsSeq.list_index -/
def ixOf (k : Int) : List Int → Option Nat
  | [] => none
  | x :: xs => if x = k then some 0 else (ixOf k xs).map (· + 1)
def ixOfM (xs : List Int) (k : Int) : M Int := match ixOf k xs with
  | some j => .ok (j : Int)
  | none => .no
theorem ixOf_hit {k : Int} : ∀ {xs : List Int} {j : Nat}, ixOf k xs = some j → xs[j]? = some k ∧ ∀ i y, i < j → xs[i]? = some y → y ≠ k
  | x :: xs, j, h => by
    unfold ixOf at h
    by_cases q : x = k
    · rw [if_pos q] at h
      cases h
      exact ⟨by rw [q]; rfl, fun i y hi => absurd hi (Nat.not_lt_zero _)⟩
    · rw [if_neg q] at h
      obtain ⟨m, hm, rfl⟩ := Option.map_eq_some_iff.mp h
      obtain ⟨h1, h2⟩ := ixOf_hit hm
      refine ⟨by simpa using h1, fun i y hi hy => ?_⟩
      cases i with
      | zero =>
        rw [List.getElem?_cons_zero] at hy
        cases hy
        exact q
      | succ i => exact h2 i y (by omega) (by simpa using hy)
def rIndex : V → List V → Hp → VK → Prop := fun x vs H Q => ∃ (l : Addr) (ns : List Int) (k : Int) (j : Nat), x = .ref l ∧ vs = [.int k] ∧ H l = some (.lst (ns.map V.int)) ∧ ixOf k ns = some j ∧ Q (.int j) H
theorem ints_at : ∀ {its : List Value} {ns : List Int}, IntsAre its ns → its.length = ns.length ∧ ∀ (i : Nat) (v : Value), its[i]? = some v → ∃ n t, v = .int n t ∧ ns[i]? = some n
  | _, _, .nil => ⟨rfl, fun i v h => by cases h⟩
  | _, _, .cons n t r => by
    obtain ⟨l, h⟩ := ints_at r
    refine ⟨by rw [List.length_cons, List.length_cons, l], fun i v hv => ?_⟩
    cases i with
    | zero =>
      rw [List.getElem?_cons_zero] at hv
      cases hv
      exact ⟨n, t, rfl, rfl⟩
    | succ i =>
      rw [List.getElem?_cons_succ] at hv
      obtain ⟨m, u, e1, e2⟩ := h i v hv
      exact ⟨m, u, e1, by rw [List.getElem?_cons_succ]; exact e2⟩
theorem mt_index : MtR X "list.index" rIndex := by
  intro pins s σ H x vs v us Q I rx rv h
  obtain ⟨l, ns, k, j, rfl, rfl, hH, hj, q⟩ := h
  cases rx
  obtain ⟨u, rfl, ru⟩ := rv.one
  obtain ⟨t, rfl⟩ := ru
  obtain ⟨z, its, n, r, hl, e⟩ := I.lstM hH
  obtain ⟨il, ia⟩ := ints_at r.ints
  obtain ⟨g1, g2⟩ := ixOf_hit hj
  have jl : j < ns.length := (List.getElem?_eq_some_iff.mp g1).1
  have at_ : ∀ (i : Nat) (hi : i < its.toArray.size), ∃ t, its.toArray[i] = .int (ns[i]'(by rw [← il]; simpa using hi)) t := fun i hi => by
    have hi' : i < its.length := by simpa using hi
    obtain ⟨m, u, e1, e2⟩ := ia i its[i] (List.getElem?_eq_getElem hi')
    refine ⟨u, ?_⟩
    rw [List.getElem?_eq_getElem (by omega)] at e2
    cases e2
    simpa using e1
  rw [List.length_map] at z
  rw [sizeLine_eq] at z
  refine call_meets F.slot_list_index ⟨_, e, rfl⟩ F.entry_list_index (F.args_list_index_2 _ _)
    (MeetsSeq.list_index l its.toArray n (.int k t) (isInt k) (fun y hy => ?_) j (by simp; omega) (by omega) ?_ fun i hi hlt => ?_) ⟨e, ?_⟩
  · obtain ⟨i, hi, rfl⟩ := Array.mem_iff_getElem.mp hy
    obtain ⟨u, eu⟩ := at_ i hi
    rw [eu]
    exact MeetsSeq.EqGives.int _ k u t
  · obtain ⟨u, eu⟩ := at_ j (by simp; omega)
    rw [eu]
    rw [List.getElem?_eq_getElem jl] at g1
    cases g1
    simp [isInt]
  · obtain ⟨u, eu⟩ := at_ i hi
    rw [eu]
    have := g2 i _ hlt (List.getElem?_eq_getElem (by omega))
    simp [isInt, this]
  · exact ⟨.int j, H, I.kept fun _ _ e => e, ⟨_, rfl⟩, q⟩
section
variable {S : List Sl} {a b : Expr} {pos p2 : Pos}
theorem e_index {m : M (List Int)} {n : M Int} (hb : PE X (.Call (.Attribute a "index" p2) [b] [] pos) (tBM X.K "list" rIndex (tEb X J S (eL eI) m) (tCons (tE X J S eI n) tNil))) :
    DE X J S (.Call (.Attribute a "index" p2) [b] [] pos) eI (mb m fun xs => mb n fun k => ixOfM xs k) :=
  pe_imp hb fun σ H Q ⟨G, own, ok, fin⟩ => B_bind Fin.wish ok fin fun xs v G1 H1 g ok1 d r => by
    obtain ⟨q0, vs0, rfl, h10, h20⟩ := DenB.list ok1.gh d
    refine ⟨.inl ⟨rfl, _, SqL.of h10⟩, ?_⟩
    refine E_bind Fin.wish ok1 r fun k u G2 H2 g2 ok2 d2 r2 => ?_
    cases d2
    obtain ⟨q, vs, e, h1, h2⟩ := DenB.list ok2.gh (d.grow g2)
    rw [DenL.ints h2] at h1
    unfold ixOfM at r2
    cases hx : ixOf k xs with
    | none => rw [hx] at r2; exact r2.elim
    | some j =>
      rw [hx] at r2
      exact ⟨q, xs, k, j, e, rfl, h1, hx, r2 _ G2 H2 (Grow.refl ok2.gh) (.int _)⟩
end
/-! ### x[i] += e, x a list of ints of one's own, 0 <= i -/
def ixP (xs : List Int) (i : Int) : M Int := if 0 ≤ i then (match xs[i.toNat]? with
  | some x => .ok x
  | none => .no) else .no
theorem get_own : PGet X (fun o i H Q => ∃ (p : Addr) (vs : List V) (j : Int) (v : V), o = .ref p ∧ i = .int j ∧ H p = some (.lst vs) ∧ 0 ≤ j ∧ vs[j.toNat]? = some v ∧ Q v H) := by
  intro pins s σ H o i ov iv Q I ro ri h
  obtain ⟨p, vs, j, v, rfl, rfl, hH, h0, hv, q⟩ := h
  cases ro
  obtain ⟨t, rfl⟩ := ri
  obtain ⟨z, its, n, r, hl, e⟩ := I.lstM hH
  obtain ⟨w, hw, rw'⟩ := r.get hv
  have hj : j.toNat < vs.length := (List.getElem?_eq_some_iff.mp hv).1
  rw [sizeLine_eq] at z
  exact wpAny_getItem_list (x := w) (IsL.isList e) h0 (by omega) (by simpa using hw) ⟨v, H, I, rw', q⟩
section
variable {β γ ρ : Type} {S : List Sl} {N : β → List Sl} {L : γ → List Sl} {R : ρ → RV} {e : Expr} {pos : Pos} {rest : List Stmt}
theorem ss_augAt {m mi : M Int} {f : List Int → M (Out β γ ρ)} {xs : List Int} {x : Str} {ie : Expr} {px p2 : Pos} (i : Nat) (hs : S[i]? = some (.ow (xs.map eI))) (hp : PE X (.Name x px) (tVar i)) (hi : DE X J S ie eI mi) (he : DE X J S e eI m)
    (hr : ∀ ys : List Int, DSs X J (S.set i (.ow (ys.map eI))) rest N L R (f ys)) (hw : Wk S J.Sx)
    (ha : ∀ ov iv new, augStore ie ov iv new = (do holding [new, ov, iv] (setItem ov iv new); release [new, ov, iv] []; pure .next) := by intros; rfl) :
    DSs X J S (.AugAssign (.Subscript (.Name x px) ie p2) .Add e pos :: rest) N L R (mb mi fun j => mb (ixP xs j) fun a => mb m fun z => mb (setM xs j (a + z)) f) :=
  pss_imp (pss_cons (ps_augS hp hi get_own he ip_add set_list ha) (pss_ex hr)) fun Dn σ H ⟨G, own, ok, fin⟩ => by
    obtain ⟨q, vs, q1, q2, q3, q4⟩ := ok.sl i _ hs
    refine ⟨.ref q, q1, E_bind (FinS.wish hw) ok ⟨fin, ok⟩ fun j v G1 H1 g1 ok1 d r => ?_⟩
    cases d
    have hq1 := g1.h _ _ q3
    have q41 := q4.mono g1.g
    have r0 := r.1
    cases hx : ixP xs j with
    | no => rw [hx] at r0; exact r0.elim
    | er z =>
      unfold ixP at hx
      split at hx
      · split at hx <;> cases hx
      · cases hx
    | ok a =>
      rw [hx, mb_ok] at r
      have h0 : 0 ≤ j ∧ xs[j.toNat]? = some a := by
        unfold ixP at hx
        split at hx
        · rename_i h0
          split at hx
          · rename_i y hy
            cases hx
            exact ⟨h0, hy⟩
          · cases hx
        · cases hx
      obtain ⟨w, e1, e2⟩ := q41.get (i := j.toNat) (d := eI a) (by rw [List.getElem?_map, h0.2]; rfl)
      cases e2
      refine ⟨q, vs, j, _, rfl, rfl, hq1, h0.1, e1, E_bind (FinS.wish hw) ok1 r fun z u G2 H2 g2 ok2 d2 r2 => ?_⟩
      cases d2
      have hq := g2.h _ _ hq1
      have q4' := q41.mono g2.g
      have hl := q4'.length
      rw [List.length_map] at hl
      have r3 := r2.1
      unfold setM at r3
      cases hix : ixN xs.length j with
      | none => rw [hix] at r3; exact r3.elim
      | some jj =>
        rw [hix] at r3
        have dl : DenL X.K J.ca G2 (vs.set jj (.int (a + z))) ((xs.set jj (a + z)).map eI) := by
          rw [List.map_set]
          exact DenL.set (.int _) jj q4'
        exact ⟨a, z, rfl, rfl, q, vs, j, jj, rfl, rfl, hq, by rw [hl]; exact hix, _, G2, own, ok2.mut hq q2 dl q1, r3⟩
end
end DL

namespace DL
open PySem PySem.Spec PyProof.Rows L2
variable {X : Cx} {J : Jx}
/-! ### f(), a def without parameters that makes a list -/
section
variable {ρ : Type} {S : List Sl} {enr : ρ → D} {f : Addr} {fd : FuncData} {x : Str} {pos p : Pos} {k j : Nat}
theorem o_call0 {encs : Unit → List Sl} {code : Unit → M (List ρ)} (C : CxD X J k) (hj : j ≤ k) (F : FnOk X.prog X.w X.K X.mg X.base (L2N.CX X.prog X.w) j f fd [] (spO X.K J.ca encs enr code)) (hm : X.mg x = some (.ref f)) (hk : PySem.W.keepIn X.K (.ref f) = true) (hb : Binds X.K fd [] []) {n : M Unit} (h : DX X J S [] encs n) (hn : n = .ok ()) (he : encs () = [])
    (hg : Gl X x := by rfl) (hdb : (x == ("__debug__" : Str)) = false := by decide) :
    DO X J S (.Call (.Name x p) [] [] pos) enr (mb n code) := by
  subst hn
  have hp : PE X (.Call (.Name x p) [] [] pos) (fun σ H Q => (spO X.K J.ca encs enr code) ([] ++ []) H Q (fun V H => WE J.W σ V H)) := by
    refine ⟨fun pins s σ H Q I h => ?_⟩
    refine wpAny_Call_Name_kw (ld_glob I hg hm ?_ hdb)
    exact PySem.W.callWith_K0 I.kIn hk (run_fnSD (us := []) (vs := []) (F.mono hj) C.room hb .nil (L2N.passAt C.tk σ) I .nil h)
  refine pe_imp hp fun σ H Q ⟨G, own, ok, fin⟩ => ?_
  refine ⟨(), G, ok.gh, by rw [he]; exact .nil, ?_⟩
  have r : FinO X J enr (code ()) σ G H Q := fin
  cases hc : code () with
  | ok y => rw [hc] at r; show spR X.K J.ca G H (mb (code ()) _) Q _; rw [hc]; exact fun p ws G' H' g h1 h2 h3 h4 => r p ws G' H' g h1 h2 h3 h4
  | er q => rw [hc] at r; show spR X.K J.ca G H (mb (code ()) _) Q _; rw [hc]; exact fun cls dd G' H' g ra => r cls dd G' H' g ra
  | no => rw [hc] at r; exact r.elim
end
end DL

namespace DL
open PySem PySem.Spec PyProof.Rows L2
variable {X : Cx} {J : Jx}
/-! ### list(o), o of an own class whose __iter__ returns iter(self.f), f a tuple -/
abbrev itTObj (l : Addr) : Obj := { cls := .type "tuple_iterator", data := .fields #[.ref l, .int 0 0] }
/-- at it an iterator over the tuple at l, at its start -/
def ItT (l it : Addr) : HO := .ext fun h => h.get? it = some (itTObj l)
theorem itT_ok {P : Program} {w : World} {H : Hp} {h : Heap} {l it : Addr} (e : h.get? it = some (itTObj l)) : ObjOk P w H h it (ItT l it) := ⟨e, ⟨_, e⟩, fun _ _ q k => k _ q⟩
def rIterT (K : PySem.W.Frag) : List V → Hp → VK → Prop := fun vs H Q => ∃ (l : Addr) (zs : List V), vs = [V.ref l] ∧ SqT K H l zs ∧ ∀ it, H it = none → (∀ b u, H b = some u → b < it) → Q (.ref it) (upd H it (ItT l it))
/-- iter(t), t a tuple; the iterator is younger than all that is tracked -/
theorem cr_iterT : CallR X (.builtin "iter") (rIterT X.K) := by
  intro pins s σ H vs us Q I r h
  obtain ⟨l, zs, rfl, hs, q⟩ := h
  obtain ⟨its, rv, hl, _⟩ := I.tuple hs
  rw [Vals.ref1 r]
  refine Calls.call_function_entry (by decide +kernel) (by decide +kernel) PySem.W.kdk_entry_iter (PySem.W.kdk_args_iter _) ?_
  unfold Builtin.«iter»
  refine wpAny_bind (m := someArgs "iter" 1 2 _) (wpAny_of_eq (a := [Value.ref l]) (by first | rfl | kernel_rfl!) ?_)
  show wpAny _ _ (pyIter (.ref l) >>= _) _ _ _
  refine wpAny_bind (wpAny_pyIter_tuple hl ?_)
  refine wpAny_pure ⟨_, rfl, .ref s.heap.objs.size, _, I.laid (t' := s.toks) (fun b u e => Heap.get?_push_of_some _ e) (Nat.le_refl _) (itT_ok (Heap.get?_push_size _ rfl)), rfl, q _ (I.hok.fresh (Nat.le_refl _)) fun b u e => ?_⟩
  refine Nat.lt_of_not_le fun z => ?_
  rw [I.hok.fresh z] at e
  cases e
/-- what a def __iter__ promises that returns iter(self.fl) -/
def spIt (K : PySem.W.Frag) (C : Addr) (fl : Str) : Sp := fun vs H Q _ => ∃ (a dx t : Addr) (gs : List (Str × V)) (zs : List V), vs = [V.ref a] ∧ H a = some (.ins C dx gs) ∧ gs.lookup fl = some (.ref t) ∧ SqT K H t zs ∧ ∀ it, H it = none → (∀ b u, H b = some u → b < it) → Q (.ref it) (upd H it (ItT t it))
def tIt (K : PySem.W.Frag) (fl : Str) : TS := tSeq (tRet (tCB (rIterT K) (tCons (tFld K (tVar 0) fl) tNil))) tNever
theorem iter_ok {P : Program} {w : World} {K : PySem.W.Frag} {mg : Str → Option Value} {base : Heap} {x qual fl : Str} {st : Stmt} {f C : Addr} {fd : FuncData} (F : Fun K x qual st f fd) (S : FnScope ["self"] ["self"] (defScope st)) (cl : Cls K C) (na : NoAttr K C fl)
    (hP : ∀ (cdv : Value) (A : Around) (outer : List Env) (s : Shared) (H : Hp) (E : XK), PSs (cxOf (L2N.CX P w) P w K mg base ["self"] qual (defScope st) f cdv A outer s H E) (defBody st) (tIt K fl)) :
    FnOk P w K mg base (L2N.CX P w) 1 f fd ["self"] (spIt K C fl) := by
  obtain ⟨oc, od, kV, doc, pm, an, cdv, ct, osl, rfl, lk, hcd⟩ := F.ex
  refine fn_of (k := 0) lk hcd S (fun vs H Q E ⟨a, dx, t, gs, zs, e, _⟩ => by rw [e]; rfl) fun A outer s H vs Q E hr ⟨a, dx, t, gs, zs, e, ha, hg, hs, q⟩ => ?_
  subst e
  exact ⟨_, hP cdv A outer s H E, .ref a, rfl, a, C, dx, gs, .ref t, rfl, ha, cl, na, hg, t, zs, rfl, hs, q⟩
section
variable {pins : List (Addr × Obj)} {σ : L2.St}
theorem fp_upd {H : Hp} {it q : Addr} {o : HO} (h : FpOk X pins H it) (ne : it ≠ q) : FpOk X pins (upd H q o) it := ⟨by rw [upd_ne ne]; exact h.1, h.2⟩
/-- the iterator over the tuple fills the list -/
theorem it_loop {A1 : Around} {q it l : Addr} {its : List Value} {zs : List V} {H : Hp} {Rs : Result → Shared → Prop} (hh : A1.handled = none) (rv : Vals zs its) (nl : l ≠ it) (nq : it ≠ q) (nlq : l ≠ q) (hz : its.length ≤ sizeLine)
    (hdone : ∀ s, Inv X pins σ (upd H q (.lst zs)) s → Rs (.ok (.ret .none)) s) :
    ∀ (m i : Nat) (s : Shared), m + i = its.length → Inv X pins σ (upd H q (.lst (zs.take i))) s → FpOk X pins H it → s.heap.IsTupleIter it l i → s.heap.IsTuple l its.toArray →
      codeAny (model X.prog X.w) A1 (.builtin "list.extend.loop" ⟨[.ref q, .ref it, .none], []⟩) Rs s
  | 0, i, s, e, I, hf, hit, ht => by
    have hi : i = its.length := by omega
    have hl := rv.length
    refine codeAny_builtin PySem.F.entry_extend_loop ?_
    rw [Around.under_plainId PySem.F.plain_extend_loop _]
    show wpAny _ A1.in1 (pyNext (.ref it) >>= _) _ _ s
    refine wpAny_bind (wpAny_pyNext_tuple_end (A := A1.in1) hh hit ht (by simp [hi]) fun h' hk => ?_)
    refine wpAny_pure (hdone _ ?_)
    have I2 := I.turnedL (h' := h') (t' := s.toks) (ch := [it]) (fun b o hb eo => hk b o (fun z => hb (List.mem_singleton.mpr z)) eo) (fun b hb => by rw [List.mem_singleton.mp hb]; exact fp_upd hf nq)
    have e2 : zs.take i = zs := List.take_of_length_le (by omega)
    rw [e2] at I2
    exact I2
  | m + 1, i, s, e, I, hf, hit, ht => by
    have hlt : i < its.length := by omega
    have hl := rv.length
    refine codeAny_builtin PySem.F.entry_extend_loop ?_
    rw [Around.under_plainId PySem.F.plain_extend_loop _]
    show wpAny _ A1.in1 (pyNext (.ref it) >>= _) _ _ s
    refine wpAny_bind (wpAny_pyNext_tuple_item hit ht (x := its[i]) (by simp [hlt]) fun h' hit' hs => ?_)
    have hk : ∀ b o, b ∉ [it] → s.heap.get? b = some o → h'.get? b = some o := fun b o hb eo => hs.extBut b o (fun z => hb (List.mem_singleton.mpr z)) eo
    have I2 : Inv X pins σ (upd H q (.lst (zs.take i))) { s with heap := h', toks := s.toks } := I.turnedL (ch := [it]) hk (fun b hb => by rw [List.mem_singleton.mp hb]; exact fp_upd hf nq)
    have ht2 : h'.IsTuple l its.toArray := ht.at fun o eo => hk l o (fun z => nl (List.mem_singleton.mp z)) eo
    show wpAny _ A1.in1 (updateSeq q (·.push its[i]) >>= _) _ _ _
    obtain ⟨z, its2, k, r2, hl2, e2⟩ := I2.lstM upd_same
    have hv : ∃ v, zs[i]? = some v ∧ RelV v its[i] := by
      have hz2 : i < zs.length := by omega
      obtain ⟨u, h1, h2⟩ := rv.get (i := i) (x := zs[i]) (List.getElem?_eq_getElem hz2)
      rw [List.getElem?_eq_getElem hlt] at h1
      cases h1
      exact ⟨zs[i], List.getElem?_eq_getElem hz2, h2⟩
    obtain ⟨v, hv1, hv2⟩ := hv
    have tl : (zs.take i).length = i := by rw [List.length_take]; omega
    refine wpAny_bind (wpAny_updateSeq e2 rfl (wpAny_pure ⟨plainId_quiet PySem.F.plain_extend_loop _, ?_⟩) (by rw [List.size_toArray]; omega) (by show (its2.toArray.push its[i]).size ≤ sizeLine + 1; rw [Array.size_push, List.size_toArray]; omega))
    have I3 := I2.lset (its' := its2 ++ [its[i]]) (t' := s.toks) upd_same e2 (f := (·.push its[i])) (by simp) (r2.append (.cons hv2 .nil)) (by rw [List.length_append, List.length_singleton]; omega)
    rw [upd_upd] at I3
    have e3 : zs.take i ++ [v] = zs.take (i + 1) := by
      rw [List.take_add_one, hv1]
      rfl
    rw [e3] at I3
    refine it_loop hh rv nl nq nlq hz hdone m (i + 1) _ (by omega) I3 hf ?_ ?_
    · exact hit'.at fun o eo => (Heap.get?_update_other _ _ (Ne.symm nq)).trans eo
    · exact ht2.at fun o eo => (Heap.get?_update_other _ _ (Ne.symm nlq)).trans eo
theorem cx_no {P : Program} {w : World} {outer : List Env} {H : Hp} {s s' : Shared} {u : Value} {α : Prop} (z : L2N.CX P w outer H s (fun _ _ _ => False) u s') : α := by
  obtain ⟨a, B, H', cls, d, _, _, _, _, _, _, _, h⟩ := z
  exact h.elim
theorem room_of {X : Cx} {n : Nat} {A : Around} (sb : Sub X n A) {s : Shared} {H : Hp} (e : Env0 X.prog X.w X.K X.mg X.base X.A X.stack s H) : Env0 X.prog X.w X.K X.mg X.base A X.stack s H :=
  ⟨by rw [sb.fr]; exact e.frames, e.mod, e.bs, e.bsz, e.funs, e.frf, e.hok, e.bare⟩
theorem ext_own {A1 : Around} {n : Nat} {C fi fn a q dx t : Addr} {fl : Str} {fdI fdN : FuncData} {spN : Sp} {gs : List (Str × V)} {zs : List V} {H : Hp} {s : Shared} {Rs : Result → Shared → Prop} (sb : Sub X n A1.in1) (sb2 : Sub X n A1.in1.in1) (hh : A1.handled = none)
    (hit : PySem.W.findIn X.K (.ref C) "__iter__" = some (some (.ref fi))) (hitF : PySem.W.isFn X.K (.ref fi) = true) (hln : PySem.W.findIn X.K (.ref C) "__len__" = some (some (.ref fn))) (hlnF : PySem.W.isFn X.K (.ref fn) = true)
    (FI : FnOk X.prog X.w X.K X.mg X.base (L2N.CX X.prog X.w) n fi fdI ["self"] (spIt X.K C fl)) (bI : Binds X.K fdI ["self"] []) (FN : FnOk X.prog X.w X.K X.mg X.base (L2N.CX X.prog X.w) n fn fdN ["self"] spN) (bN : Binds X.K fdN ["self"] [])
    (I : Inv X pins σ H s) (ha : H a = some (.ins C dx gs)) (hq : H q = some (.lst [])) (hg : gs.lookup fl = some (.ref t)) (hs : SqT X.K H t zs) (young : X.s_0.heap.objs.size ≤ q)
    (hN : ∀ it, H it = none → q < it → spN [.ref a] (upd H it (ItT t it)) (fun v H2 => ∃ k : Int, v = .int k ∧ (0 ≤ k ∧ k ≤ 1000000) ∧ (∀ b u, upd H it (ItT t it) b = some u → H2 b = some u) ∧ ∀ s', Inv X pins σ (upd (ItX.dropH H2 it) q (.lst zs)) s' → Rs (.ok (.ret .none)) s') (fun _ _ _ => False)) :
    wpAny (model X.prog X.w) A1.in1 (Builtin.List.listExtendWith (.ref q) (.ref a) .none)
      (fun fin s' => match fin with | .done f => Rs (.ok f) s' | .again c' => c'.quiet = true ∧ codeAny (model X.prog X.w) A1 c' Rs s') (fun e s' => Rs (.error e) s') s := by
  have hne : q ≠ a := ne_of hq ha (fun z => nomatch z)
  obtain ⟨mA, J0, _⟩ := ins_get I.hok ha
  obtain ⟨od, J0, _⟩ := J0.look
  obtain ⟨m0, hF⟩ := I.fr
  unfold Builtin.List.listExtendWith
  refine wpAny_bind (J0.type.here ?_)
  have h1 : Builtin.List.listSameRef (.ref q) (.ref a) = false := by simp [Builtin.List.listSameRef, hne]
  have h2 : (Value.ref C == Value.type "list") = false := rfl
  have h3 : (Value.ref C == Value.type "tuple") = false := rfl
  simp only [h1, h2, h3, Bool.or_false, Bool.false_eq_true, if_false]
  refine wpAny_bind (PySem.W.owit_iter hF I.ok.mod.kin J0 hit hitF ?_)
  have hspI : spIt X.K C fl [.ref a] H (fun v H' => ∃ it, v = .ref it ∧ H it = none ∧ q < it ∧ H' = upd H it (ItT t it)) (fun _ _ _ => False) := ⟨a, dx, t, gs, zs, rfl, ha, hg, hs, fun it e1 e2 => ⟨it, rfl, e1, e2 _ _ hq, rfl⟩⟩
  have hl := FI.len _ _ _ _ hspI
  have r2 : Vals [V.ref a] [Value.ref a] := .cons rfl .nil
  refine wpAny_call (codeAny_mono (FI.run A1.in1 X.stack s H ⟨[.ref a], []⟩ [.ref a] [.ref a] _ _ sb.room (room_of sb I.env0) (by
    have := bI s [.ref a] I.kIn (by simpa using hl)
    simpa using this) r2 hspI) fun r s' hq' => ?_)
  cases r with
  | error e => exact cx_no hq'
  | ok fl2 =>
    cases fl2 with
    | next => exact False.elim hq'
    | brk => exact False.elim hq'
    | cont => exact False.elim hq'
    | ret u =>
      obtain ⟨v, H', I', rv, it, ev, hitn, hlt, eH⟩ := I.after hq'
      subst ev
      subst eH
      cases rv
      have hob : s'.heap.get? it = some (itTObj t) := (I'.hok it _ upd_same).1
      have hTI : s'.heap.IsTupleIter it t 0 := ⟨_, hob, rfl, rfl⟩
      have ha' : upd H it (ItT t it) a = some (.ins C dx gs) := by rw [upd_ne (fun z => by rw [z, hitn] at ha; cases ha)]; exact ha
      have hqq' : upd H it (ItT t it) q = some (.lst []) := by rw [upd_ne (fun z => by rw [z, hitn] at hq; cases hq)]; exact hq
      unfold PySem.W.OwitIt
      refine wpAny_specialOf (name := "__next__") hTI.typeIs PySem.F.slot_tuple_iterator_next.lookup ?_
      obtain ⟨mA', J', _⟩ := ins_get I'.hok ha'
      obtain ⟨od', J', _⟩ := J'.look
      obtain ⟨m1, hF'⟩ := I'.fr
      refine wpAny_bind (wpAny_holding ?_)
      unfold Builtin.List.listLengthHint
      refine wpAny_bind (wpAny_bind (J'.type.here ((PySem.W.looks_findIn I'.kIn hln).here ?_)))
      refine PySem.W.KFB.if_not rfl ?_
      refine wpAny_ite_split (fun _ => ?_) (fun z => absurd rfl z)
      refine wpAny_bind (wpAny_rule ?_)
      have hspN := hN it hitn hlt
      refine wpAny_bind (wpAny_attempt (PySem.W.len_K hF' I'.ok.mod.kin J' hln hlnF ?_))
      have hl3 := FN.len _ _ _ _ hspN
      refine wpAny_call (codeAny_mono (FN.run A1.in1.in1 X.stack s' _ ⟨[.ref a], []⟩ [.ref a] [.ref a] _ _ sb2.room (room_of sb2 I'.env0) (by
        have := bN s' [.ref a] I'.kIn (by simpa using hl3)
        simpa using this) r2 hspN) fun r3 s2 hq2 => ?_)
      cases r3 with
      | error e => exact cx_no hq2
      | ok fl3 =>
        cases fl3 with
        | next => exact False.elim hq2
        | brk => exact False.elim hq2
        | cont => exact False.elim hq2
        | ret u =>
          obtain ⟨v, H2, I2, rv, k, ev, hk, ext, fin⟩ := I'.after hq2
          subst ev
          obtain ⟨tk, rfl⟩ := rv
          refine ⟨⟨hk.1, by omega⟩, ?_⟩
          refine wpAny_bind (wpAny_pure ?_)
          refine wpAny_ite_split (fun z => ?_) (fun _ => ?_)
          · exfalso
            have : Builtin.List.listTooLong k.toNat = false := notLongL (by rw [sizeLine_eq]; omega)
            rw [this] at z
            cases z
          · refine wpAny_pure ?_
            have I3 : Inv X pins σ H2 { s2 with toks := s2.toks + 1 } := I2.tok _
            have hI : H2 it = some (ItT t it) := ext it _ upd_same
            have hob2 : s2.heap.get? it = some (itTObj t) := (I3.hok it _ hI).1
            have hTI2 : s2.heap.IsTupleIter it t 0 := ⟨_, hob2, rfl, rfl⟩
            have I4 : Inv X pins σ (ItX.dropH H2 it) { s2 with toks := s2.toks + 1 } := ItX.inv_drop I3 hI
            have hf4 : FpOk X pins (ItX.dropH H2 it) it := ItX.inv_fp I3 hI (Nat.le_trans young (Nat.le_of_lt hlt))
            have ex4 : ∀ b u, H b = some u → ItX.dropH H2 it b = some u := fun b u eb => by
              have nb : b ≠ it := fun z => by rw [z, hitn] at eb; cases eb
              rw [ItX.dropH_ne nb]
              exact ext b u (by rw [upd_ne nb]; exact eb)
            have nq : it ≠ q := fun z => by rw [z, hq] at hitn; cases hitn
            obtain ⟨its, rv4, ht4, hz4⟩ := I4.tuple (hs.ext ex4)
            have ht5 : s2.heap.IsTuple t its.toArray := ht4
            have nt : t ≠ it := fun z => by
              obtain ⟨o1, ho1, hc1, _⟩ := id ht5
              rw [z] at ho1
              have e9 : some (itTObj t) = some o1 := hob2.symm.trans ho1
              cases e9
              exact Value.noConfusion hc1 fun z => absurd z (by decide)
            have ntq : t ≠ q := fun z => by
              obtain ⟨o1, ho1, hc1, _⟩ := id ht5
              obtain ⟨_, its9, k9, _, _, e9⟩ := I4.lstM (ex4 _ _ hq)
              rw [z] at ho1
              have e8 := e9.symm.trans ho1
              cases e8
              exact Value.noConfusion hc1 fun z => absurd z (by decide)
            have hq4 : ItX.dropH H2 it q = some (.lst []) := ex4 _ _ hq
            have hH : upd (ItX.dropH H2 it) q (.lst []) = ItX.dropH H2 it := by
              funext b
              by_cases hb : b = q
              · rw [hb, upd_same, hq4]
              · rw [upd_ne hb]
            have lz := rv4.length
            have go : ∀ s4, Inv X pins σ (ItX.dropH H2 it) s4 → s4.heap.IsTupleIter it t 0 → s4.heap.IsTuple t its.toArray → codeAny (model X.prog X.w) A1 (.builtin "list.extend.loop" ⟨[.ref q, .ref it, .none], []⟩) Rs s4 := fun s4 I5 h5 h6 =>
              it_loop hh rv4 nt nq ntq (by omega) fin its.length 0 s4 rfl (by rw [List.take_zero, hH]; exact I5) hf4 h5 h6
            refine wpAny_ite_split (fun _ => ?_) (fun _ => wpAny_pure ⟨plainId_quiet PySem.F.plain_extend_loop _, go _ I4 hTI2 ht4⟩)
            obtain ⟨z, its5, k5, r5, hl5, e5⟩ := I4.lstM hq4
            cases r5
            refine wpAny_bind (wpAny_rule ?_)
            refine wpAny_bind ?_
            show wpAny _ _ (updateSeq q (·.push .none) >>= fun _ => updateSeq q (·.pop)) _ _ _
            refine wpAny_bind (wpAny_updateSeq e5 rfl ?_)
            have I6 := I4.lset (f := (·.push Value.none)) (its' := [Value.none]) (ys := [.non]) (t' := s2.toks + 1) hq4 e5 (by simp) (.cons rfl .nil) (by rw [List.length_singleton, sizeLine_eq]; decide)
            obtain ⟨z4, its6, k6, r6, hl6, e6⟩ := I6.lstM upd_same
            obtain ⟨u4, rfl, ru4⟩ := r6.one
            refine wpAny_updateSeq e6 rfl ?_ (by show 1 ≤ sizeLine; rw [sizeLine_eq]; decide) (by show 0 ≤ sizeLine + 1; exact Nat.zero_le _)
            have I7 := I6.lset (f := (·.pop)) (its := [u4]) (its' := []) (ys := []) (t' := s2.toks + 1) upd_same e6 (by rfl) .nil (Nat.zero_le _)
            rw [upd_upd, hH] at I7
            refine wpAny_pure ⟨plainId_quiet PySem.F.plain_extend_loop _, go _ I7 ?_ ?_⟩
            · exact (hTI2.at fun o eo => (Heap.get?_update_other _ _ (Ne.symm nq)).trans eo).at fun o eo => (Heap.get?_update_other _ _ (Ne.symm nq)).trans eo
            · exact (ht5.at fun o eo => (Heap.get?_update_other _ _ (Ne.symm ntq)).trans eo).at fun o eo => (Heap.get?_update_other _ _ (Ne.symm ntq)).trans eo
end
/-- list(o) -/
def rLs (K : PySem.W.Frag) (C : Addr) (fl : Str) (spN : Sp) : List V → Hp → VK → Prop := fun xs H Q => ∃ (a dx t : Addr) (gs : List (Str × V)) (zs : List V), xs = [V.ref a] ∧ H a = some (.ins C dx gs) ∧ gs.lookup fl = some (.ref t) ∧ SqT K H t zs ∧
  ∀ (q it : Addr) (R : V → Hp → Prop), H q = none → H it = none → q < it → (∀ (k : Int) (H2 : Hp), (0 ≤ k ∧ k ≤ 1000000) → (∀ b u, upd (upd H q (.lst [])) it (ItT t it) b = some u → H2 b = some u) → Q (.ref q) (upd (ItX.dropH H2 it) q (.lst zs)) → R (.int k) H2) → spN [.ref a] (upd (upd H q (.lst [])) it (ItT t it)) R (fun _ _ _ => False)
theorem cr_ls {n : Nat} {C fi fn : Addr} {fl : Str} {fdI fdN : FuncData} {spN : Sp} (hc : X.calm = true) (hr : Room (n + 3) X.A)
    (hit : PySem.W.findIn X.K (.ref C) "__iter__" = some (some (.ref fi))) (hitF : PySem.W.isFn X.K (.ref fi) = true) (hln : PySem.W.findIn X.K (.ref C) "__len__" = some (some (.ref fn))) (hlnF : PySem.W.isFn X.K (.ref fn) = true)
    (FI : FnOk X.prog X.w X.K X.mg X.base (L2N.CX X.prog X.w) n fi fdI ["self"] (spIt X.K C fl)) (bI : Binds X.K fdI ["self"] []) (FN : FnOk X.prog X.w X.K X.mg X.base (L2N.CX X.prog X.w) n fn fdN ["self"] spN) (bN : Binds X.K fdN ["self"] []) :
    CallR X (.type "list") (rLs X.K C fl spN) := by
  intro pins s σ H xs us Q I rv h
  obtain ⟨a, dx, t, gs, zs, rfl, ha, hg, hs, hq⟩ := h
  obtain ⟨u, rfl, ru⟩ := rv.one
  cases ru
  have sb0 : Sub X (n + 3) X.A := ⟨hr, rfl⟩
  have sb : Sub X n X.A.in1.in1 := (Sub.in1 (Sub.in1 sb0)).mono (Nat.le_succ n)
  have sb2 : Sub X n X.A.in1.in1.in1 := Sub.in1 (Sub.in1 (Sub.in1 sb0))
  refine callType_codes (Q₁ := fun obj s₁ => obj = .ref s.heap.objs.size ∧ s₁ = { s with heap := s.heap.push { cls := .type "list", data := .seq #[] } }) PySem.F.called_list (PySem.F.typeCall_list_1 _) PySem.F.entry_list_init
    (code_list_new _ ⟨rfl, rfl⟩) fun obj s₁ h₁ => ?_
  obtain ⟨rfl, rfl⟩ := h₁
  have hS : (s.heap.push { cls := .type "list", data := .seq #[] }).get? s.heap.objs.size = some { cls := .type "list", data := .seq #[] } := Heap.get?_push_size _ rfl
  refine ⟨⟨_, hS, rfl⟩, PySem.F.args_list_init_2 _ _, ?_⟩
  have fr : H s.heap.objs.size = none := I.hok.fresh (Nat.le_refl _)
  have I1 : Inv X pins σ (upd H s.heap.objs.size (.lst [])) { s with heap := s.heap.push { cls := .type "list", data := .seq #[] } } := I.lnew (its := []) (t' := s.toks) .nil (Nat.zero_le _)
  show wpAny _ _ (do let old ← Builtin.List.listItems (.ref s.heap.objs.size); Builtin.List.listUpdate (.ref s.heap.objs.size) (fun _ => #[]); letGo old.toList.reverse; Builtin.List.listExtendWith (.ref s.heap.objs.size) (.ref a) .none) _ _ _
  refine wpAny_bind ?_
  unfold Builtin.List.listItems
  refine wpAny_bind (wpAny_seqItems hS rfl (wpAny_pure ?_))
  show wpAny _ _ (updateSeq s.heap.objs.size (fun _ => #[]) >>= fun _ => letGo (#[] : Array Value).toList.reverse >>= fun _ => Builtin.List.listExtendWith (.ref s.heap.objs.size) (.ref a) .none) _ _ _
  refine wpAny_bind (wpAny_updateSeq hS rfl ?_)
  have I2 := I1.lset (f := fun _ => #[]) (its := []) (its' := []) (ys := []) (t' := s.toks) upd_same hS rfl .nil (Nat.zero_le _)
  rw [upd_upd] at I2
  refine wpAny_bind (wpAny_letGo ?_)
  have ha2 : upd H s.heap.objs.size (.lst []) a = some (.ins C dx gs) := by rw [upd_ne (ne_of_none ha fr)]; exact ha
  have ex : ∀ b u, H b = some u → upd H s.heap.objs.size (.lst []) b = some u := fun b u e => by rw [upd_ne (ne_of_none e fr)]; exact e
  refine ext_own (A1 := X.A.in1) (Rs := wants (fun r s₂ => r = .none ∧ EP X pins σ Q (.ref s.heap.objs.size) s₂) X.xe) sb sb2 (I.ok.hd hc) hit hitF hln hlnF FI bI FN bN I2 ha2 upd_same hg (hs.ext ex) I.sz fun it h1 h2 => ?_
  have hit0 : H it = none := by
    cases e : H it with
    | none => rfl
    | some u =>
      rw [ex it u e] at h1
      cases h1
  exact hq s.heap.objs.size it _ fr hit0 h2 fun k H2 hk e q => ⟨k, rfl, hk, e, fun s' I' => ⟨rfl, .ref s.heap.objs.size, _, I', rfl, q⟩⟩
section
variable {α β : Type} {S : List Sl} {enc : α → D} {enb : β → D} {a : Expr} {pos p : Pos} {k j : Nat}
def lsO (n : Int) (xs : List β) : M (List β) := if 0 ≤ n ∧ n ≤ 1000000 then .ok xs else .no
theorem o_listObj {m : M α} {Cn fl : Str} {fi fn : Addr} {fdI fdN : FuncData} {fs : α → List (Str × D)} {g : α → List β} {code : α → M Int} (C : CxD X J k) (hj : j + 3 ≤ k) (hj1 : 1 ≤ j) (hm : X.mg "list" = none)
    (hit : PySem.W.findIn X.K (.ref (J.ca Cn)) "__iter__" = some (some (.ref fi))) (hitF : PySem.W.isFn X.K (.ref fi) = true) (hln : PySem.W.findIn X.K (.ref (J.ca Cn)) "__len__" = some (some (.ref fn))) (hlnF : PySem.W.isFn X.K (.ref fn) = true)
    (FI : FnOk X.prog X.w X.K X.mg X.base (L2N.CX X.prog X.w) 1 fi fdI ["self"] (spIt X.K (J.ca Cn) fl)) (bI : Binds X.K fdI ["self"] []) (FN : FnOk X.prog X.w X.K X.mg X.base (L2N.CX X.prog X.w) j fn fdN ["self"] (spE X.K J.ca (xC enc xN) eI fun a => code a.1)) (bN : Binds X.K fdN ["self"] [])
    (hd : ∀ z, enc z = .obj Cn (fs z) ∧ (fs z).lookup fl = some (eT enb (g z))) (hne : ∀ z y, code z ≠ .er y) (h : PA X [a] (tCons (tE X J S enc m) tNil)) (hg : Gl X "list" := by rfl)
    (he : starEach (a :: []) X.env = (false, eval a X.env) :: starEach [] X.env := by rfl) (hpl : (backTo pos (starEach [] X.env)).any (·.1) = false := by rfl) :
    DO X J S (.Call (.Name "list" p) [a] [] pos) enb (mb m fun z => mb (code z) fun n => lsO n (g z)) :=
  pe_imp (pe_callTy (cr_ls C.calm (C.room.mono hj) hit hitF hln hlnF (FI.mono hj1) bI FN bN) hg hm boot_list h (by decide) (by decide) he hpl) fun σ H Q ⟨G, own, ok, fin⟩ => E_bind FinO.wish ok fin fun z v G1 H1 g1 ok1 d r => by
    have d' := d
    rw [(hd z).1] at d
    cases d with
    | obj hq hF =>
      obtain ⟨w, e1, e2⟩ := hF.lookup (hd z).2
      obtain ⟨t, zs, rfl, h1, h2⟩ := Den.tuple (X := X) ok1.gh e2
      refine ⟨_, _, t, _, zs, rfl, ok1.gh _ _ hq, e1, h1, fun q it R hq0 hi0 hlt hR => ?_⟩
      have nqi : q ≠ it := Nat.ne_of_lt hlt
      have up : ∀ b o, H1 b = some o → upd (upd H1 q (.lst [])) it (ItT t it) b = some o := fun b o e => by
        rw [upd_ne (fun z => by rw [z, hi0] at e; cases e), upd_ne (fun z => by rw [z, hq0] at e; cases e)]
        exact e
      have sg : Same G1 (upd (upd H1 q (.lst [])) it (ItT t it)) := fun b o e => up b o (ok1.gh b o e)
      refine ⟨(z, ()), G1, sg, .cons d' .nil, ?_⟩
      show spR X.K J.ca G1 _ (mb (code z) _) R _
      cases hcz : code z with
      | no => rw [hcz] at r; exact r.elim
      | er y => exact absurd hcz (hne z y)
      | ok n =>
        rw [hcz] at r
        intro v G' H2 gr dv
        cases dv
        by_cases hn : 0 ≤ n ∧ n ≤ 1000000
        · have r' : FinO X J enb (if 0 ≤ n ∧ n ≤ 1000000 then M.ok (g z) else .no) σ G1 H1 Q := r
          rw [if_pos hn] at r'
          have gi : G' it = none := by
            rw [gr.n it (by rw [upd_same]; simp)]
            cases e : G1 it with
            | none => rfl
            | some o => rw [ok1.gh it o e] at hi0; cases hi0
          have gq : G' q = none := by
            rw [gr.n q (by rw [upd_ne nqi, upd_same]; simp)]
            cases e : G1 q with
            | none => rfl
            | some o => rw [ok1.gh q o e] at hq0; cases hq0
          refine hR n H2 hn (fun b u e => gr.h b u e) (r' q zs G' _ ⟨gr.g, fun b o e => ?_, fun b o e => ?_, fun b hb => gr.n b fun z => ?_⟩ hq0 upd_same gq (h2.mono gr.g))
          · rw [upd_ne (fun z => by rw [z, hq0] at e; cases e), ItX.dropH_ne (fun z => by rw [z, hi0] at e; cases e)]
            exact gr.h b o (up b o e)
          · rw [upd_ne (fun z => by rw [z, gq] at e; cases e), ItX.dropH_ne (fun z => by rw [z, gi] at e; cases e)]
            exact gr.gh b o e
          · cases e : H1 b with
            | none => exact hb e
            | some o => rw [up b o e] at z; cases z
        · have r' : FinO X J enb (if 0 ≤ n ∧ n ≤ 1000000 then M.ok (g z) else .no) σ G1 H1 Q := r
          rw [if_neg hn] at r'
          exact r'.elim
end
/-- k in x as a test -/
theorem t_din {α : Type} {S : List Sl} {k : Nat} {pos : Pos} {mi : M Int} {kvs : List (Int × α)} {x : Str} {ie : Expr} {px : Pos} {vd : α → V} (C : CxD X J k) (i : Nat) (hs : S[i]? = some (.dk (kvV vd kvs))) (hp : PE X (.Name x px) (tVar i)) (hi : DE X J S ie eI mi) (hb : behindInMarks .In (.Name x px) = false := by rfl) :
    DT X J S (.Compare ie [.In] [.Name x px] pos) (mb mi fun j => .ok (getA kvs j).isSome) :=
  pt_imp (pt_cmp (pc_din (by have := C.room.units; omega) hi hp) hb) fun σ H Q ⟨G, own, ok, fin⟩ => E_bind FinT.wish ok fin fun y u G2 H2 g2 ok2 d2 r2 => by
    cases d2
    obtain ⟨q, q1, q2, q3⟩ := ok2.sl i _ hs
    have dg := DGet.k (k := Sum.inl y) q3
    have e := get_hk vd y kvs
    unfold hkV at e
    rw [e] at dg
    refine ⟨.ref q, q1, q, _, rfl, dg, _, rfl, ?_⟩
    rw [Option.isSome_map]
    exact r2 G2 H2 (Grow.refl ok2.gh)
end DL

namespace DL
open PySem PySem.Spec PyProof.Rows L2
variable {X : Cx} {J : Jx}
section
variable {α β γ δ ρ : Type} {S : List Sl} {N : β → List Sl} {L : γ → List Sl} {R : ρ → RV} {enc : α → D} {pos p : Pos} {k j : Nat} {rest body : List Stmt}
/-- x.clear() -/
theorem ss_clear {m : M (Out β γ ρ)} {xs : List α} {x : Str} {px p2 pos2 : Pos} (i : Nat) (hs : S[i]? = some (.ow (xs.map enc))) (hr : DSs X J (S.set i (.ow (([] : List α).map enc))) rest N L R m)
    (hb : PE X (.Call (.Attribute (.Name x px) "clear" p2) [] [] pos2) (tBM0 X.K "list" rClear (tVar i)))
    (hsw : swapsWith (.Call (.Attribute (.Name x px) "clear" p2) [] [] pos2) none pos.line X.env = pure false := by rfl) :
    DSs X J S (.Expr (.Call (.Attribute (.Name x px) "clear" p2) [] [] pos2) pos :: rest) N L R m :=
  pss_imp (pss_cons (ps_expr hb hsw) hr) fun Dn σ H ⟨G, own, ok, fin⟩ => by
    obtain ⟨q, vs, h1, h2, h3, h4⟩ := ok.sl i _ hs
    exact ⟨.ref q, h1, .inl ⟨rfl, _, SqL.of h3⟩, q, vs, rfl, rfl, h3, G, own, ok.mut h3 h2 .nil h1, fin⟩
end
/-! ### any, all of a list of bools; a whole number at the top -/
section
variable {S : List Sl} {a : Expr} {pos p : Pos}
theorem e_anyL {m : M (List Bool)} (hc : X.calm = true) (hm : X.mg "any" = none) (h : PA X [a] (tCons (tEb X J S (eL eB) m) tNil)) (hg : Gl X "any" := by rfl)
    (he : starEach (a :: []) X.env = (false, eval a X.env) :: starEach [] X.env := by rfl) (hpl : (backTo pos (starEach [] X.env)).any (·.1) = false := by rfl) : DE X J S (.Call (.Name "any" p) [a] [] pos) eB (mb m fun xs => .ok (xs.any id)) :=
  pe_imp (pe_callB (cr_any hc) hg hm (by decide +kernel) h (by decide) (by decide) he hpl) fun σ H Q ⟨G, own, ok, fin⟩ => B_bind Fin.wish ok fin fun xs v G1 H1 g ok1 d r => by
    obtain ⟨q, vs, rfl, h1, h2⟩ := DenB.list ok1.gh d
    rw [DenL.bls h2] at h1
    exact ⟨q, xs, rfl, SqL.of h1, r _ G1 H1 (Grow.refl ok1.gh) (.bl _)⟩
theorem e_allL {m : M (List Bool)} (hc : X.calm = true) (hm : X.mg "all" = none) (h : PA X [a] (tCons (tEb X J S (eL eB) m) tNil)) (hg : Gl X "all" := by rfl)
    (he : starEach (a :: []) X.env = (false, eval a X.env) :: starEach [] X.env := by rfl) (hpl : (backTo pos (starEach [] X.env)).any (·.1) = false := by rfl) : DE X J S (.Call (.Name "all" p) [a] [] pos) eB (mb m fun xs => .ok (xs.all id)) :=
  pe_imp (pe_callB (cr_all hc) hg hm (by decide +kernel) h (by decide) (by decide) he hpl) fun σ H Q ⟨G, own, ok, fin⟩ => B_bind Fin.wish ok fin fun xs v G1 H1 g ok1 d r => by
    obtain ⟨q, vs, rfl, h1, h2⟩ := DenB.list ok1.gh d
    rw [DenL.bls h2] at h1
    exact ⟨q, xs, rfl, SqL.of h1, r _ G1 H1 (Grow.refl ok1.gh) (.bl _)⟩
theorem e_gint {x : Str} {i : Int} (hm : ∃ t, X.mg x = some (.int i t)) (hg : Gl X x := by rfl) (hd : (x == ("__debug__" : Str)) = false := by decide) : DE X J S (.Name x pos) eI (.ok i) := by
  obtain ⟨t, hm⟩ := hm
  exact pe_imp (pe_glob (v := .int i) hg hm ⟨t, rfl⟩ hd) fun σ H Q ⟨G, own, ok, fin⟩ => fin _ G H (Grow.refl ok.gh) (.int _)
end
/-! ### x in xs, items of any shape -/
section
/-- x stands in xs -/
def memB {α : Type} [DecidableEq α] (x : α) (xs : List α) : Bool := decide (x ∈ xs)
theorem inD_any {α : Type} [DecidableEq α] {enc : α → D} {pd : α → PyData} {n : Nat} (h : PdE enc pd n) (x : α) : ∀ xs : List α, ((xs.map pd).any fun z => PyData.eqv z (pd x)) = memB x xs
  | [] => rfl
  | y :: ys => by
    rw [List.map_cons, List.any_cons, inD_any h x ys, Bool.eq_iff_iff]
    unfold memB
    simp only [Bool.or_eq_true, decide_eq_true_eq, List.mem_cons, h.eq]
    exact ⟨fun e => e.imp Eq.symm id, fun e => e.imp Eq.symm id⟩
theorem c_inD {α : Type} [DecidableEq α] {enc : α → D} {pd : α → PyData} {n : Nat} (h : PdE enc pd n) (h2 : PdE (eL enc) (fun xs => .list (xs.map pd)) (n + 1)) (hn : n + 1 ≤ 64) (hu : X.A.units + 65 < cLine) : CmpD X J .In enc (eL enc) fun x xs => memB x xs := ⟨_, op_inD hu, fun x y v u G H own Q sg d1 d2 q => by
  have sh : ∀ z, SeqAt.shaped (pd z) = true := fun z => by
    unfold SeqAt.shaped
    rw [h.lay, decide_eq_true (Nat.le_trans (h.dep z) (by omega))]; rfl
  have sh2 : SeqAt.shaped (.list (y.map pd)) = true := by
    unfold SeqAt.shaped
    rw [h2.lay y, decide_eq_true (Nat.le_trans (h2.dep y) hn)]; rfl
  refine ⟨pd x, y.map pd, d1.dp h sg, DenB.dp (pd := fun xs => PyData.list (xs.map pd)) (x := y) h2 sg d2, sh x, sh2, ?_⟩
  rw [inD_any h]
  exact q⟩
theorem c_notInD {α : Type} [DecidableEq α] {enc : α → D} {pd : α → PyData} {n : Nat} (h : PdE enc pd n) (h2 : PdE (eL enc) (fun xs => .list (xs.map pd)) (n + 1)) (hn : n + 1 ≤ 64) (hu : X.A.units + 65 < cLine) : CmpD X J .NotIn enc (eL enc) fun x xs => !memB x xs := ⟨_, op_notInD hu, fun x y v u G H own Q sg d1 d2 q => by
  have sh : ∀ z, SeqAt.shaped (pd z) = true := fun z => by
    unfold SeqAt.shaped
    rw [h.lay, decide_eq_true (Nat.le_trans (h.dep z) (by omega))]; rfl
  have sh2 : SeqAt.shaped (.list (y.map pd)) = true := by
    unfold SeqAt.shaped
    rw [h2.lay y, decide_eq_true (Nat.le_trans (h2.dep y) hn)]; rfl
  refine ⟨pd x, y.map pd, d1.dp h sg, DenB.dp (pd := fun xs => PyData.list (xs.map pd)) (x := y) h2 sg d2, sh x, sh2, ?_⟩
  rw [inD_any h]
  exact q⟩
end
end DL

namespace DL
open PySem PySem.Spec PyProof.Rows L2
variable {X : Cx} {J : Jx}
/-! ### == by an own __eq__, from either side -/
section
variable {C f : Addr} {fd : FuncData} {n : Nat} {ps : List Str} {sp : Sp}
/-- what stands on the other side -/
def OthR (K : PySem.W.Frag) (C : Addr) (H : Hp) (y : V) : Prop := (∃ b dy hs, y = .ref b ∧ H b = some (.ins C dy hs)) ∨ ∃ b zs, y = .ref b ∧ SqT K H b zs
def rEqO (K : PySem.W.Frag) (C : Addr) (sp : Sp) : R2 := fun x y H Q => ∃ a dx gs, x = .ref a ∧ H a = some (.ins C dx gs) ∧ OthR K C H y ∧ sp [x, y] H (fun v H' => ∃ c, v = .bl c ∧ Q (.bl c) H') (fun _ _ _ => False)
theorem tupT {pins : List (Addr × Obj)} {σ : L2.St} {H : Hp} {s : Shared} {b : Addr} {zs : List V} (I : Inv X pins σ H s) (h : SqT X.K H b zs) : s.TypeIs (.ref b) "tuple" := by
  obtain ⟨its, _, ⟨o, e, c, _⟩, _⟩ := I.tuple h
  exact ⟨o, e, c⟩
theorem op_eqO (hs : PySem.W.findIn X.K (.ref C) "__eq__" = some (some (.ref f))) (hf : PySem.W.isFn X.K (.ref f) = true) (F : FnOk X.prog X.w X.K X.mg X.base (L2N.CX X.prog X.w) n f fd ps sp) (hb : Binds X.K fd ps [])
    (hr : Room n X.A) (tk : L2N.Takes X J.W) (hn : PySem.W.notFirst X.K C (.type "tuple") = true) : OpR X (compareOp .Eq) (rEqO X.K C sp) := by
  intro pins s σ H x y v u Q I rx ry h
  obtain ⟨a, dx, gs, rfl, ha, oth, q⟩ := h
  cases (show v = Value.ref a from rx)
  obtain ⟨mA, J0, _⟩ := ins_get I.hok ha
  obtain ⟨od, J0, _⟩ := J0.look
  obtain ⟨m, hF⟩ := I.fr
  have go : ∀ {b : Addr} {tb : Value}, y = .ref b → u = Value.ref b → PySem.W.Looks (model X.prog X.w) s.heap (typeOf (.ref b)) tb → PySem.W.notFirst X.K C tb = true → wpAny (model X.prog X.w) X.A (compareOp .Eq (.ref a) u) (EP X pins σ Q) X.xe s := by
    intro b tb ey eu lk nf
    subst ey eu
    show wpAny _ _ (richCompare .Eq (.ref a) (.ref b)) _ _ _
    refine PySem.W.cmp_K (op := .Eq) (tb := tb) hr.units0 hF I.ok.mod.kin J0 lk nf hs hf ?_
    have hl := F.len _ _ _ _ q
    have r2 : Vals [V.ref a, V.ref b] [Value.ref a, Value.ref b] := .cons rfl (.cons rfl .nil)
    refine wpAny_call (codeAny_mono (F.run X.A X.stack s H ⟨[.ref a, .ref b], []⟩ [.ref a, .ref b] [.ref a, .ref b] _ _ hr I.env0 (by
      have := hb s [.ref a, .ref b] I.kIn (by simpa using hl)
      simpa using this) r2 q) fun r s' hq => ?_)
    cases r with
    | error e => exact (pass_no (hx := tk) pins σ H s e s' I hq)
    | ok fl =>
      cases fl with
      | ret w =>
        obtain ⟨z, H', I', rz, c, ez, qz⟩ := I.after hq
        subst ez
        cases rz
        exact ⟨.bl c, H', I', rfl, qz⟩
      | next => exact False.elim hq
      | brk => exact False.elim hq
      | cont => exact False.elim hq
  rcases oth with ⟨b, dy, hs', ey, hb'⟩ | ⟨b, zs, ey, hz⟩
  · subst ey
    obtain ⟨mB, J', _⟩ := ins_get I.hok hb'
    obtain ⟨od', J', _⟩ := J'.look
    exact go rfl ry J'.type (by simp [PySem.W.notFirst])
  · subst ey
    obtain ⟨its, _, ⟨o, e, c, _⟩, _⟩ := I.tuple hz
    exact go rfl ry (fun A Q E s k q => wpAny_typeOf_ref (k _ _ e) (by rw [c]; exact q)) hn
/-- tuple == an instance: tuple.__eq__ declines -/
theorem tup_declines {A : Around} {pins : List (Addr × Obj)} {σ : L2.St} {H : Hp} {s : Shared} {t a dx : Addr} {zs : List V} {gs : List (Str × V)} {Q : Value → Shared → Prop} {E : Value → Shared → Prop} (I : Inv X pins σ H s) (ht : SqT X.K H t zs) (ha : H a = some (.ins C dx gs))
    (hsub : PySem.W.subIn X.K (.ref C) (.type "tuple") = some false) (q : Q .notImplemented s) : wpAny (model X.prog X.w) A (call (.builtin "tuple.__eq__") [.ref t, .ref a]) Q E s := by
  obtain ⟨mA, J0, _⟩ := ins_get I.hok ha
  obtain ⟨od, J0, _⟩ := J0.look
  have slot := PySem.F.slot_tuple_eq
  refine wpAny_call (codeAny_call_builtin slot.plain PySem.F.entry_tuple_eq (slot.check _ _ _ _ _ _ _ _ (tupT I ht) (PySem.F.args_tuple_eq_2 _ _) ?_))
  have di : PySem.W.Looks (model X.prog X.w) s.heap (isInstance (.ref a) (.type "tuple")) false := J0.type.andThen (PySem.W.looks_subIn I.kIn hsub)
  unfold Builtin.«tuple.__eq__»
  refine wpAny_bind (m := slotArgs "__eq__" 1 ⟨[.ref t, .ref a], []⟩) (wpAny_pure (a := (Value.ref t, [Value.ref a])) ?_)
  refine wpAny_bind (di.here ?_)
  exact wpAny_pure q
def rEqR (K : PySem.W.Frag) (C : Addr) (sp : Sp) : R2 := fun x y H Q => ∃ a dx gs t zs, x = .ref t ∧ y = .ref a ∧ H a = some (.ins C dx gs) ∧ SqT K H t zs ∧ sp [y, x] H (fun v H' => ∃ c, v = .bl c ∧ Q (.bl c) H') (fun _ _ _ => False)
theorem op_eqR (hs : PySem.W.findIn X.K (.ref C) "__eq__" = some (some (.ref f))) (hf : PySem.W.isFn X.K (.ref f) = true) (F : FnOk X.prog X.w X.K X.mg X.base (L2N.CX X.prog X.w) n f fd ps sp) (hb : Binds X.K fd ps [])
    (hr : Room n X.A) (tk : L2N.Takes X J.W) (hsub : PySem.W.subIn X.K (.ref C) (.type "tuple") = some false) : OpR X (compareOp .Eq) (rEqR X.K C sp) := by
  intro pins s σ H x y v u Q I rx ry h
  obtain ⟨a, dx, gs, t, zs, rfl, rfl, ha, ht, q⟩ := h
  cases (show v = Value.ref t from rx)
  cases (show u = Value.ref a from ry)
  obtain ⟨mA, J0, _⟩ := ins_get I.hok ha
  obtain ⟨od, J0, _⟩ := J0.look
  show wpAny _ _ (richCompare .Eq (.ref t) (.ref a)) _ _ _
  unfold richCompare
  simp only [oneThing_ref]
  refine wpAny_holding (wpAny_bind (wpAny_cRoomFor hr.units0 ?_))
  refine wpAny_bind (wpAny_typeOf (tupT I ht) (wpAny_bind (J0.type.here ?_)))
  refine wpAny_bind ((PySem.W.looks_subIn I.kIn hsub).here ?_)
  simp only [Bool.false_eq_true, if_false, Bool.not_false, if_true]
  refine wpAny_bind (m := tryCompare _ _ _) (wpAny_tryCompare_declines (tupT I ht) PySem.F.slot_tuple_eq (tup_declines I ht ha hsub ⟨rfl, ?_⟩))
  have hl := F.len _ _ _ _ q
  have r2 : Vals [V.ref a, V.ref t] [Value.ref a, Value.ref t] := .cons rfl (.cons rfl .nil)
  refine wpAny_bind (m := tryCompare _ _ _) ?_
  unfold tryCompare
  refine wpAny_bind (PySem.W.ifBound_K I.kIn J0 hs hf ?_)
  refine wpAny_call (codeAny_mono (F.run X.A X.stack s H ⟨[.ref a, .ref t], []⟩ [.ref a, .ref t] [.ref a, .ref t] _ _ hr I.env0 (by
    have := hb s [.ref a, .ref t] I.kIn (by simpa using hl)
    simpa using this) r2 q) fun r s' hq => ?_)
  cases r with
  | error e => exact (pass_no (hx := tk) pins σ H s e s' I hq)
  | ok fl =>
    cases fl with
    | ret w =>
      obtain ⟨z, H', I', rz, c, ez, qz⟩ := I.after hq
      subst ez
      cases rz
      exact wpAny_pure (wpAny_pure ⟨.bl c, H', I', rfl, qz⟩)
    | next => exact False.elim hq
    | brk => exact False.elim hq
    | cont => exact False.elim hq
end
section
variable {α β γ : Type} {S : List Sl} {enc : α → D} {enb : β → D} {a b : Expr} {pos : Pos} {k j : Nat} {f : Addr} {fd : FuncData} {Cn : Str} {fs : α → List (Str × D)}
/-- a def of two that answers a bool, called on what x and y stand for -/
theorem sp_eq {G H : Hp} {v u : V} {x : α} {y : β} {code : α → β → M Bool} {Q : V → Hp → Prop} (sg : Same G H) (dx : Den X.K J.ca G v (enc x)) (dy : Den X.K J.ca G u (enb y)) (hne : ∀ x y e, code x y ≠ .er e)
    (h : ∀ c, code x y = .ok c → ∀ G' H', Grow G H G' H' → Q (.bl c) H') (hno : code x y ≠ .no) :
    spE X.K J.ca (xC enc (xC enb xN)) eB (fun a => code a.1 a.2.1) [v, u] H (fun v H' => ∃ c, v = .bl c ∧ Q (.bl c) H') (fun _ _ _ => False) := by
  refine ⟨(x, (y, ())), G, sg, .cons dx (.cons dy .nil), ?_⟩
  show spR X.K J.ca G H (mb (code x y) _) _ _
  cases hc : code x y with
  | no => exact (hno hc).elim
  | er e => exact (hne _ _ _ hc).elim
  | ok c =>
    intro v' G' H' g dv
    cases dv
    exact ⟨c, rfl, h c hc G' H' g⟩
/-- x == y, x of a class with an own __eq__, y of it too or a tuple -/
theorem e_eqO {m : M α} {n : M β} {code : α → β → M Bool} (C : CxD X J k) (hj : j ≤ k) (hs : PySem.W.findIn X.K (.ref (J.ca Cn)) "__eq__" = some (some (.ref f))) (hf : PySem.W.isFn X.K (.ref f) = true)
    (F : FnOk X.prog X.w X.K X.mg X.base (L2N.CX X.prog X.w) j f fd ["self", "other"] (spE X.K J.ca (xC enc (xC enb xN)) eB fun a => code a.1 a.2.1)) (hb : Binds X.K fd ["self", "other"] []) (hd : ∀ z, enc z = .obj Cn (fs z))
    (ho : (∀ y, ∃ gs, enb y = .obj Cn gs) ∨ ∀ y, ∃ ds, enb y = .tup ds) (hne : ∀ x y e, code x y ≠ .er e) (hn : PySem.W.notFirst X.K (J.ca Cn) (.type "tuple") = true) (ha : DE X J S a enc m) (hb2 : DE X J S b enb n) (hm : behindInMarks .Eq b = false) :
    DE X J S (.Compare a [.Eq] [b] pos) eB (mb m fun x => mb n fun y => code x y) :=
  pe_imp (pe_cmpR (op_eqO hs hf F hb (C.room.mono hj) C.tk hn) ha hb2 hm) fun σ H Q ⟨G, own, ok, fin⟩ => E_bind Fin.wish ok fin fun x v G1 H1 g1 ok1 d1 r1 => E_bind Fin.wish ok1 r1 fun y u G2 H2 g2 ok2 d2 r2 => by
    have d1' := d1.mono g2.g
    have d1o := d1'
    rw [hd x] at d1o
    cases d1o with
    | obj hq hF =>
      refine ⟨_, _, _, rfl, ok2.gh _ _ hq, ?_, sp_eq ok2.gh d1' d2 hne (fun c hc G' H' g => ?_) (fun hc => ?_)⟩
      · rcases ho with ho | ho
        · obtain ⟨gs, e⟩ := ho y
          rw [e] at d2
          cases d2 with
          | obj hq2 _ => exact .inl ⟨_, _, _, rfl, ok2.gh _ _ hq2⟩
        · obtain ⟨ds, e⟩ := ho y
          rw [e] at d2
          obtain ⟨q, vs, e1, h1, _⟩ := Den.tuple (X := X) ok2.gh d2
          exact .inr ⟨q, vs, e1, h1⟩
      · rw [hc] at r2
        exact r2 _ G' H' g (.bl c)
      · rw [hc] at r2
        exact r2.elim
/-- y == x, y a tuple, x of a class with an own __eq__ -/
theorem e_eqR {m : M α} {n : M β} {code : α → β → M Bool} (C : CxD X J k) (hj : j ≤ k) (hs : PySem.W.findIn X.K (.ref (J.ca Cn)) "__eq__" = some (some (.ref f))) (hf : PySem.W.isFn X.K (.ref f) = true)
    (F : FnOk X.prog X.w X.K X.mg X.base (L2N.CX X.prog X.w) j f fd ["self", "other"] (spE X.K J.ca (xC enc (xC enb xN)) eB fun a => code a.1 a.2.1)) (hb : Binds X.K fd ["self", "other"] []) (hd : ∀ z, enc z = .obj Cn (fs z))
    (ho : ∀ y, ∃ ds, enb y = .tup ds) (hne : ∀ x y e, code x y ≠ .er e) (hsub : PySem.W.subIn X.K (.ref (J.ca Cn)) (.type "tuple") = some false) (hb2 : DE X J S b enb n) (ha : DE X J S a enc m) (hm : behindInMarks .Eq a = false) :
    DE X J S (.Compare b [.Eq] [a] pos) eB (mb n fun y => mb m fun x => code x y) :=
  pe_imp (pe_cmpR (op_eqR hs hf F hb (C.room.mono hj) C.tk hsub) hb2 ha hm) fun σ H Q ⟨G, own, ok, fin⟩ => E_bind Fin.wish ok fin fun y u G1 H1 g1 ok1 d1 r1 => E_bind Fin.wish ok1 r1 fun x v G2 H2 g2 ok2 d2 r2 => by
    have d1' := d1.mono g2.g
    have d2o := d2
    rw [hd x] at d2o
    cases d2o with
    | obj hq hF =>
      have d1t := d1'
      obtain ⟨ds, e⟩ := ho y
      rw [e] at d1t
      obtain ⟨t, vs, e1, h1, _⟩ := Den.tuple (X := X) ok2.gh d1t
      subst e1
      refine ⟨_, _, _, _, _, rfl, rfl, ok2.gh _ _ hq, h1, sp_eq ok2.gh d2 d1' hne (fun c hc G' H' g => ?_) (fun hc => ?_)⟩
      · rw [hc] at r2
        exact r2 _ G' H' g (.bl c)
      · rw [hc] at r2
        exact r2.elim
end
/-! ### sorted(t), t a tuple of ints: wpAny_collect_seq and list_sort_ord put together -/
theorem cr_sortedTI : CallR X (.builtin "sorted") (fun vs H Q => ∃ (a : Addr) (ns : List Int), vs = [V.ref a] ∧ SqT X.K H a (ns.map V.int) ∧ ∀ (ns' : List Int) (p : Addr), ns'.Perm ns → ns'.Pairwise (· ≤ ·) → H p = none → Q (.ref p) (upd H p (.lst (ns'.map V.int)))) := by
  intro pins s σ H vs us Q I r h
  obtain ⟨a, ns, rfl, ha, q⟩ := h
  rw [Vals.ref1 r]
  obtain ⟨its, rv, ⟨o, e, c, n, d⟩, hz⟩ := I.tuple ha
  have hi := rv.ints
  have hz2 : its.length ≤ sizeLine := by rw [← rv.length]; exact hz
  refine Calls.call_function_entry kind_sorted plain_sorted entry_sorted (args_sorted1 _) ?_
  unfold Builtin.«sorted»
  refine wpAny_bind (m := checkCount "sorted" 1 1 _) (wpAny_pure (wpAny_bind (wpAny_collect_seq a (.inr rfl) e c d (fun h1 k => ?_) (by simpa using hz2))))
  refine wpAny_bind (wpAny_newList ?_ hz2)
  have hnew : (h1.push (seqObj "list" its.toArray 0)).get? h1.objs.size = some (seqObj "list" its.toArray 0) := Heap.get?_push_size _ rfl
  refine wpAny_bind (wpAny_holding (wpAny_call_entry slot_list_sort ⟨_, hnew, rfl⟩ entry_list_sort (SrtO.list_sort_ord SrtO.swo_int hnew hz2 (fun h2 => SrtO.ints_sortable hi h2) fun out hs hb => ⟨_, rfl, wpAny_pure ⟨_, rfl, ?_⟩⟩) (args_list_sort _)))
  obtain ⟨k1, k2, k3⟩ := SrtO.ints_out hi hs hb
  obtain ⟨ep, he'⟩ := sortedHeap_at (vs := its) (out := out.toArray) hnew
  have hlen : ((out.map SrtO.iv).map V.int).length ≤ sizeLine := by
    rw [List.length_map, k2.length_eq]
    rw [List.length_map] at hz
    exact hz
  have hn : H h1.objs.size = none := (I.hok.kept k).fresh (Nat.le_refl _)
  have hp : s.heap.get? h1.objs.size = none := by
    cases z : s.heap.get? h1.objs.size with
    | none => rfl
    | some u => exact absurd (Heap.lt_size (k _ _ z)) (Nat.lt_irrefl _)
  refine ⟨.ref _, upd H h1.objs.size (.lst ((out.map SrtO.iv).map V.int)), I.laidN (t' := s.toks) (fun b u hu => ?_) hp hn ⟨hlen, out, ep, vals_of_ints k1, he'⟩, rfl, q _ _ k2 k3 hn⟩
  have hb1 := Heap.lt_size (k b u hu)
  refine (sortedHeap_old (Nat.ne_of_lt hb1) ?_).trans (Heap.get?_push_of_some _ (k b u hu))
  rw [Heap.size_push]
  exact Nat.lt_succ_of_lt hb1
section
variable {S : List Sl} {a : Expr} {pos p : Pos}
theorem o_sortedT {m : M (List Int)} (hm : X.mg "sorted" = none) (h : PA X [a] (tCons (tE X J S (eT eI) m) tNil)) (hg : Gl X "sorted" := by rfl)
    (he : starEach (a :: []) X.env = (false, eval a X.env) :: starEach [] X.env := by rfl) (hpl : (backTo pos (starEach [] X.env)).any (·.1) = false := by rfl) : DO X J S (.Call (.Name "sorted" p) [a] [] pos) eI (mb m fun xs => .ok (sortI xs)) :=
  pe_imp (pe_callB cr_sortedTI hg hm (by decide +kernel) h (by decide) (by decide) he hpl) fun σ H Q ⟨G, own, ok, fin⟩ => E_bind FinO.wish ok fin fun xs v G1 H1 g ok1 d r => by
    obtain ⟨q, vs, rfl, h1, h2⟩ := Den.tuple (X := X) ok1.gh d
    rw [DenL.ints h2] at h1
    refine ⟨q, xs, rfl, h1, fun ns' l hp hw hl => ?_⟩
    rw [sortI_eq hp hw]
    exact r l _ G1 _ (Grow.allocO ok1.gh hl) hl upd_same (Same.free ok1.gh hl) (DL.DenL.of_ints _)
end
/-! ### isinstance(x, C), x a tuple or a list, C an own class; what stands behind a false -/
section
variable {α : Type} {enc : α → D}
theorem ty_tupC {C : Addr} {r : Bool} (h : PySem.W.kitOne X.K (.type "tuple") (.ref C) = some r) : ∀ (z : List α) v G H own, Same G H → DenB X J G H own v (eT enc z) → ∃ t', TyX X.K H v t' ∧ PySem.W.kitOne X.K t' (.ref C) = some ((fun _ => r) z) :=
  fun z v G H own sg d => by
    obtain ⟨q, vs, rfl, h1, h2⟩ := DenB.tup sg d
    exact ⟨_, sqT_ty h1, h⟩
theorem ty_lstC {C : Addr} {r : Bool} (h : PySem.W.kitOne X.K (.type "list") (.ref C) = some r) : ∀ (z : List α) v G H own, Same G H → DenB X J G H own v (eL enc z) → ∃ t', TyX X.K H v t' ∧ PySem.W.kitOne X.K t' (.ref C) = some ((fun _ => r) z) :=
  fun z v G H own sg d => by
    obtain ⟨q, vs, rfl, h1, h2⟩ := DenB.list sg d
    exact ⟨_, .base (.lst h1), h⟩
theorem kit_bto {K : PySem.W.Frag} {T : String} {E : Addr} {b : Bool} (h1 : PySem.W.isClsIn K E = true) (h2 : PySem.W.typeIn K (.ref E) = some (.type "type")) (h3 : PySem.W.subIn K (.type T) (.ref E) = some b) : PySem.W.kitOne K (.type T) (.ref E) = some b := by
  unfold PySem.W.kitOne
  rw [if_neg (fun z => by cases beq_iff_eq.mp z)]
  have e : ((PySem.W.clsIn K E).isSome && PySem.W.typeIn K (.ref E) == some (.type "type")) = true := by
    unfold PySem.W.isClsIn at h1
    rw [h1, h2]
    rfl
  show (if _ = true then _ else _) = _
  rw [if_pos e]
  exact h3
theorem de_no {S : List Sl} {e : Expr} : DE X J S e enc .no := ⟨fun _ _ _ _ _ _ ⟨_, _, _, fin⟩ => fin.elim⟩
theorem e_andF {S : List Sl} {a b : Expr} {es : List Expr} {pos : Pos} {m : M Bool} (h : DE X J S a eB m) (hm : m = .ok false) : DE X J S (.BoolOp .And (a :: b :: es) pos) eB (.ok false) := by
  subst hm
  exact e_and (n := .no) h de_no
end
/-! ### a new instance inside a try body: run_makeN with the wish at the slots as they are (an adaptation of the library's run_makeN: Passes becomes PassesAt) -/
section
open L2
theorem run_makeA {X : Cx} {CX : CXT} {k n : Nat} {f C : Addr} {fd : FuncData} {ps ks : List Str} {sp : Sp} {E : XK} {g : List Value → List Value → List Value} {gV : List V → List V → List V} {pins : List (Addr × Obj)} {σ : L2.St} {H : Hp} {s : Shared} {Q : VK} {us ws : List Value} {vs zs : List V} (M : Mk X.K C f) (F : FnOk X.prog X.w X.K X.mg X.base CX k f fd ps sp) (hr : Room (k + 1) X.A) (hb : KBn X.K fd ps (n + 1) ks g gV)
    (hx : PassesAt CX X σ E) (I : Inv X pins σ H s) (r : Vals vs us) (rz : Vals zs ws) (l1 : vs.length = n) (l2 : zs.length = ks.length)
    (h : ∀ x dx, H x = none → H dx = none → dx ≠ x → sp (gV (.ref x :: vs) zs) (upd (upd H dx (.own x)) x (.ins C dx [])) (fun v H2 => v = .non ∧ Q (.ref x) H2) E) :
    wpAny (model X.prog X.w) X.A (call (.ref C) us (ks.zip ws)) (EP X pins σ Q) X.xe s := by
  have hq := h (s.heap.objs.size + 1) s.heap.objs.size (I.hok.fresh (Nat.le_succ _)) (I.hok.fresh (Nat.le_refl _)) (Nat.ne_of_lt (Nat.lt_succ_self _))
  have I2 := Inv.made (C := C) I
  have r2 := hb.rel (Paired.cons (show RelV (V.ref (s.heap.objs.size + 1)) (Value.ref (s.heap.objs.size + 1)) from rfl) r) rz
  have e1 : (Value.ref (s.heap.objs.size + 1) :: us).length = n + 1 := by rw [List.length_cons, ← r.length, l1]
  refine wpAny_call (make_map (f := f) I.kIn M.makes M.init (beq_iff_eq.mp M.fn) (codeAny_mono (F.run _ X.stack _ _ ⟨Value.ref (s.heap.objs.size + 1) :: us, ks.zip ws⟩ (g (Value.ref (s.heap.objs.size + 1) :: us) ws) _ _ E (hr.make C us (ks.zip ws))
    (I2.env0.make C us (ks.zip ws)) (hb.to _ (Value.ref (s.heap.objs.size + 1) :: us) ws I2.kIn e1 (rz.length.symm.trans l2)) r2 hq) fun res t z => ?_))
  cases res with
  | error e => exact hx pins _ _ e t I2 z
  | ok fl =>
    cases fl with
    | ret u =>
      obtain ⟨v, H', I3, rv, ev, q3⟩ := I2.after z
      subst ev
      exact ⟨rv, V.ref (s.heap.objs.size + 1), H', I3, rfl, q3⟩
    | _ => exact z.elim
end
section
variable {α β γ δ ρ κ : Type} {S : List Sl} {enc : α → D} {a b c e : Expr} {es : List Expr} {pos p kpos : Pos} {k j : Nat} {kws : List Keyword}
theorem e_makeA {f : Addr} {fd : FuncData} {ps ks : List Str} {x Cn : Str} {n : Nat} {gV : List V → List V → List V} {encA : κ → List Sl} {code : κ → M ρ} {flds : ρ → List (Str × D)} {encs : α → List Sl} {enk : β → List Sl} {ma : M α} {mk : M β} {mkA : α → β → κ}
    (C : CxD X J k) (hj : j + 1 ≤ k) (Mm : Mk X.K (J.ca Cn) f) (F : FnOk X.prog X.w X.K X.mg X.base (L2N.CX X.prog X.w) j f fd ps (spN X.K J.ca Cn encA fun a => mb (code a) fun r => .ok (flds r))) (hm : X.mg x = some (.ref (J.ca Cn))) (hb : ∃ g, KBn X.K fd ps (n + 1) ks g gV)
    (ha : DX X J S (e :: es) encs ma) (hk : DK X J S kws enk mk) (hn : ∀ z, (encs z).length = n) (hn2 : ∀ z, (enk z).length = ks.length)
    (hA : ∀ (G H : Hp) (v : V) (vs zs : List V) (z : α) (y : β), ArgL X.K J.ca G H vs (encs z) → ArgL X.K J.ca G H zs (enk y) → ∃ ws, gV (v :: vs) zs = v :: ws ∧ ArgL X.K J.ca G H ws (encA (mkA z y)))
    (hg : Gl X x := by rfl) (hall : (backToKw pos (keywordEach kws X.env)).all (·.1.isSome) = true := by rfl) (hks : (backToKw pos (keywordEach kws X.env)).filterMap (·.1) = ks := by rfl)
    (hdb : (x == ("__debug__" : Str)) = false := by decide) (he : starEach (e :: es) X.env = (false, eval e X.env) :: starEach es X.env := by rfl)
    (hpl : ((backTo pos (starEach (e :: es) X.env)).any (·.1) || (backToKw pos (keywordEach kws X.env)).any (·.1.isNone)) = false := by rfl) :
    DE X J S (.Call (.Name x p) (e :: es) kws pos) (fun r => .obj Cn (flds r)) (mb ma fun z => mb mk fun y => code (mkA z y)) := by
  obtain ⟨g, hb⟩ := hb
  refine ⟨fun pins s σ H Q I ⟨G, own, ok, fin⟩ => ?_⟩
  refine wpAny_Call_Name_kw (ld_glob I hg hm ?_ hdb)
  have ta := X_bind (X := X) (J := J) (f := fun z => mb mk fun y => code (mkA z y)) (Fin.wish (enc := fun r => D.obj Cn (flds r)) (Q := Q)) ok fin
    (P := fun vs H1 => ∃ z G1, OkX X J G1 H1 own σ S ∧ ArgL X.K J.ca G1 H1 vs (encs z) ∧ Fin X J (fun r => D.obj Cn (flds r)) (mb mk fun y => code (mkA z y)) σ G1 H1 Q)
    fun z vs G1 H1 g1 ok1 d r => ⟨z, G1, ok1, d, r⟩
  refine PySem.W.callWith_KW (h₀ := X.base) I.ok.mod.kin Mm.kp hall (thn (ha.run pos pins s σ H _ I ta) fun us s1 ⟨vs, H1, I1, r1, z, G1, ok1, d1, fin1⟩ => ?_) hpl he
  have tk := X_bind (X := X) (J := J) (f := fun y => code (mkA z y)) (Fin.wish (enc := fun r => D.obj Cn (flds r)) (Q := Q)) ok1 fin1
    (P := fun zs H2 => ∃ y G2, OkX X J G2 H2 own σ S ∧ Grow G1 H1 G2 H2 ∧ ArgL X.K J.ca G2 H2 zs (enk y) ∧ Fin X J (fun r => D.obj Cn (flds r)) (code (mkA z y)) σ G2 H2 Q)
    fun y zs G2 H2 g2 ok2 d r => ⟨y, G2, ok2, g2, d, r⟩
  refine thn (hk.run pos pins s1 σ H1 _ I1 tk) fun ws s2 ⟨zs, H2, I2, rz, y, G2, ok2, g2, d2, fin2⟩ => ⟨I2.kIn, ?_⟩
  rw [hks]
  have dv := d1.mono g2.g g2.h
  refine run_makeA (E := fun cls d H => J.W cls d σ H) Mm F (C.room.mono hj) hb (L2N.passAt C.tk σ) I2 r1 rz (by rw [dv.length, hn]) (by rw [d2.length, hn2]) fun a dx h1 h2 hne => ?_
  obtain ⟨ws', e1, e2⟩ := hA G2 H2 (.ref a) vs zs z y dv d2
  have sg2 : Same G2 (upd (upd H2 dx (.own a)) a (.ins (J.ca Cn) dx [])) := fun b o q => by
    have q' := ok2.gh b o q
    rw [upd_ne (ne_of_none q' h1), upd_ne (ne_of_none q' h2)]; exact q'
  have hG : G2 a = none := Same.free ok2.gh h1
  refine ⟨mkA z y, a, dx, ws', G2, e1, upd_same, hG, sg2, e2.mono (Same.refl _) (fun b o q => by
    have n1 : b ≠ a := fun z => by rw [z, h1] at q; cases q
    rw [hid_ne n1, upd_ne n1, upd_ne fun z => by rw [z, h2] at q; cases q]; exact q), ?_⟩
  have old : ∀ b, H2 b ≠ none → b ≠ a ∧ (upd (upd H2 dx (.own a)) a (.ins (J.ca Cn) dx [])) b = H2 b := fun b hbn => by
    have n1 : b ≠ a := fun z => hbn (z ▸ h1)
    have n2 : b ≠ dx := fun z => hbn (z ▸ h2)
    exact ⟨n1, by rw [upd_ne n1, upd_ne n2]⟩
  cases hc : code (mkA z y) with
  | no => rw [hc] at fin2; exact fin2.elim
  | er q =>
    rw [hc] at fin2
    simp only [hc, mb_er]
    intro cls d G' H' s1 s2 o1 o2 ra
    refine fin2 cls d G' H' ⟨s1, fun b o q => ?_, s2, fun b hbn => ?_⟩ ra
    · obtain ⟨n1, n2⟩ := old b (by rw [q]; exact fun z => by cases z)
      rw [o1 b n1 (by rw [n2, q]; exact fun z => by cases z), n2]; exact q
    · obtain ⟨n1, n2⟩ := old b hbn
      exact o2 b n1 (by rw [n2]; exact hbn)
  | ok r =>
    rw [hc] at fin2
    simp only [hc, mb_ok]
    intro G' H' gs dy s1 s2 o1 o2 ha' hf
    have hGa : G' a = none := by rw [o2 a (by rw [upd_same]; exact fun z => by cases z)]; exact hG
    refine ⟨trivial, fin2 _ (upd G' a (.ins (J.ca Cn) dy gs)) H' ⟨s1.trans (same_upd hGa), fun b o q => ?_, fun b o q => ?_, fun b hbn => ?_⟩ (.obj upd_same (hf.mono (same_upd hGa)))⟩
    · obtain ⟨n1, n2⟩ := old b (by rw [q]; exact fun z => by cases z)
      rw [o1 b n1 (by rw [n2, q]; exact fun z => by cases z), n2]; exact q
    · by_cases hb' : b = a
      · subst hb'; rw [upd_same] at q; cases q; exact ha'
      · rw [upd_ne hb'] at q; exact s2 b o q
    · obtain ⟨n1, n2⟩ := old b hbn
      rw [upd_ne n1]; exact o2 b (by rw [n2]; exact hbn)
end
end DL

namespace DL
open PySem PySem.Spec PyProof.Rows L2
variable {X : Cx} {J : Jx}
/-! ### x + y, x * i by own operators: binop_K, ksp_binT by name -/
section
variable {C f : Addr} {fd : FuncData} {n : Nat} {ps : List Str} {sp : Sp}
/-- what x * i asks of the class at C -/
structure MulI (K : PySem.W.Frag) (C : Addr) : Prop where
  rc : ∃ rc, PySem.W.findIn K (.ref C) (dunderR "mul") = some rc ∧ (rc = none ∨ ∃ g : Addr, rc = some (.ref g))
  fo : ∃ fo, PySem.W.findIn K (.type "int") (PySem.dunder "mul") = some fo
  ro : ∃ ro, PySem.W.findIn K (.type "int") (dunderR "mul") = some ro
  sub : PySem.W.subIn K (.type "int") (.ref C) = some false
def rAddO (C : Addr) (sp : Sp) (E : XK) : R2 := fun x y H Q => ∃ a dx gs b dy hs, x = .ref a ∧ H a = some (.ins C dx gs) ∧ y = .ref b ∧ H b = some (.ins C dy hs) ∧ sp [x, y] H (fun v H' => (∃ q, v = .ref q) ∧ Q v H') E
def rMulO (C : Addr) (sp : Sp) (E : XK) : R2 := fun x y H Q => ∃ a dx gs i, x = .ref a ∧ H a = some (.ins C dx gs) ∧ y = .int i ∧ sp [x, y] H (fun v H' => (∃ q, v = .ref q) ∧ Q v H') E
theorem own_back {E : XK} {pins : List (Addr × Obj)} {σ : L2.St} {H : Hp} {s : Shared} {Q : VK} {us : List Value} {vs : List V} (F : FnOk X.prog X.w X.K X.mg X.base (L2N.CX X.prog X.w) n f fd ps sp) (hb : Binds X.K fd ps []) (hr : Room n X.A)
    (hx : ∀ τ, PassesAt (L2N.CX X.prog X.w) X τ E) (I : Inv X pins σ H s) (r2 : Vals vs us) (q : sp vs H (fun v H' => (∃ q, v = .ref q) ∧ Q v H') E) :
    wpAny (model X.prog X.w) X.A (call (.ref f) us) (PySem.W.CmpBack (EP X pins σ Q)) X.xe s := by
  have hl := F.len _ _ _ _ q
  refine wpAny_call (codeAny_mono (F.run X.A X.stack s H ⟨us, []⟩ us vs _ _ hr I.env0 (by
    have := hb s us I.kIn (by rw [List.append_nil, ← r2.length]; exact hl)
    simpa using this) r2 q) fun r s' hq => ?_)
  cases r with
  | error e => exact hx σ pins H s e s' I hq
  | ok fl =>
    cases fl with
    | ret w =>
      obtain ⟨z, H', I', rz, ⟨p, ez⟩, qz⟩ := I.after hq
      subst ez
      cases (show w = Value.ref p from rz)
      exact ⟨.ref p, H', I', rfl, qz⟩
    | _ => exact False.elim hq
theorem op_addO {E : XK} (hc : PySem.W.selfFirst X.K C = true) (hs : PySem.W.findIn X.K (.ref C) (PySem.dunder "add") = some (some (.ref f))) (hf : PySem.W.isFn X.K (.ref f) = true) (F : FnOk X.prog X.w X.K X.mg X.base (L2N.CX X.prog X.w) n f fd ps sp) (hb : Binds X.K fd ps [])
    (hr : Room n X.A) (hx : ∀ τ, PassesAt (L2N.CX X.prog X.w) X τ E) : OpR X (binaryOp .Add) (rAddO C sp E) := by
  intro pins s σ H x y v u Q I rx ry h
  obtain ⟨a, dx, gs, b, dy, hs', rfl, ha, rfl, hb', q⟩ := h
  cases (show v = Value.ref a from rx)
  cases (show u = Value.ref b from ry)
  obtain ⟨mA, J0, _⟩ := ins_get I.hok ha
  obtain ⟨od, J0, _⟩ := J0.look
  obtain ⟨mB, J1, _⟩ := ins_get I.hok hb'
  obtain ⟨od1, J1, _⟩ := J1.look
  obtain ⟨m, hF⟩ := I.fr
  have r2 : Vals [V.ref a, V.ref b] [Value.ref a, Value.ref b] := .cons rfl (.cons rfl .nil)
  exact PySem.W.binop_K (op := .Add) hF I.ok.mod.kin J0 J1.type hc hs hf (own_back F hb hr hx I r2 q)
theorem op_mulO {E : XK} (hc : PySem.W.selfFirst X.K C = true) (hm : MulI X.K C) (hs : PySem.W.findIn X.K (.ref C) (PySem.dunder "mul") = some (some (.ref f))) (hf : PySem.W.isFn X.K (.ref f) = true) (F : FnOk X.prog X.w X.K X.mg X.base (L2N.CX X.prog X.w) n f fd ps sp) (hb : Binds X.K fd ps [])
    (hr : Room n X.A) (hx : ∀ τ, PassesAt (L2N.CX X.prog X.w) X τ E) : OpR X (binaryOp .Mult) (rMulO C sp E) := by
  intro pins s σ H x y v u Q I rx ry h
  obtain ⟨a, dx, gs, i, rfl, ha, rfl, q⟩ := h
  cases (show v = Value.ref a from rx)
  obtain ⟨t, rfl⟩ := ry
  obtain ⟨mA, J0, _⟩ := ins_get I.hok ha
  obtain ⟨od, J0, _⟩ := J0.look
  obtain ⟨m, hF⟩ := I.fr
  obtain ⟨⟨rc, r1, r2⟩, ⟨fo, e1⟩, ⟨ro, e2⟩, hsub⟩ := hm
  have rr : Vals [V.ref a, V.int i] [Value.ref a, Value.int i t] := .cons rfl (.cons ⟨t, rfl⟩ .nil)
  exact PySem.W.ksp_binT (op := .Mult) (T := "int") hF I.ok.mod.kin J0 rfl hc hs hf r1 r2 e1 e2 hsub (own_back F hb hr hx I rr q)
end
section
variable {α β γ : Type} {S : List Sl} {enc : α → D} {enb : β → D} {enr : γ → D} {a b : Expr} {pos : Pos} {k j : Nat} {f : Addr} {fd : FuncData} {Cn : Str} {fs : α → List (Str × D)} {fr : γ → List (Str × D)} {ps : List Str}
/-- the wish at an exception, at any slots -/
def WA (J : Jx) : XK := fun cls d H => ∀ σ, J.W cls d σ H
theorem pass_all (tk : L2N.Takes X J.W) (τ : L2.St) : PassesAt (L2N.CX X.prog X.w) X τ (WA J) := fun pins H s e s' I c => tk e s' (L2N.XE.of_call I (fun _ _ _ h => h τ) c)
theorem sp_bin {G H : Hp} {σ : L2.St} {v u : V} {x : α} {y : β} {code : α → β → M γ} {Q : V → Hp → Prop} (hW : ∀ cls d σ τ H, J.W cls d σ H → J.W cls d τ H) (sg : Same G H) (dx : Den X.K J.ca G v (enc x)) (dy : Den X.K J.ca G u (enb y)) (hr : ∀ z, enr z = .obj Cn (fr z))
    (h : Fin X J enr (code x y) σ G H Q) : spE X.K J.ca (xC enc (xC enb xN)) enr (fun a => code a.1 a.2.1) [v, u] H (fun v H' => (∃ q, v = .ref q) ∧ Q v H') (WA J) := by
  refine ⟨(x, (y, ())), G, sg, .cons dx (.cons dy .nil), ?_⟩
  show spR X.K J.ca G H (mb (code x y) _) _ _
  cases hc : code x y with
  | no => rw [hc] at h; exact h.elim
  | er e =>
    rw [hc] at h
    show ErK X.K J.ca e G H (WA J)
    exact fun cls d G' H' g ra τ => hW cls d σ τ H' (h cls d G' H' g ra)
  | ok c =>
    rw [hc] at h
    intro v' G' H' g dv
    have dv' := dv
    rw [hr c] at dv'
    cases dv' with
    | obj hq hF => exact ⟨⟨_, rfl⟩, h _ G' H' g dv⟩
/-- x + y, both of a class with an own __add__ -/
theorem e_addO {m : M α} {n : M β} {code : α → β → M γ} (C : CxD X J k) (hj : j ≤ k) (hW : ∀ cls d σ τ H, J.W cls d σ H → J.W cls d τ H) (hc : PySem.W.selfFirst X.K (J.ca Cn) = true) (hs : PySem.W.findIn X.K (.ref (J.ca Cn)) "__add__" = some (some (.ref f))) (hf : PySem.W.isFn X.K (.ref f) = true)
    (F : FnOk X.prog X.w X.K X.mg X.base (L2N.CX X.prog X.w) j f fd ps (spE X.K J.ca (xC enc (xC enb xN)) enr fun a => code a.1 a.2.1)) (hb : Binds X.K fd ps []) {fsb : β → List (Str × D)} (hd : ∀ z, enc z = .obj Cn (fs z)) (hd2 : ∀ z, enb z = .obj Cn (fsb z)) (hr : ∀ z, enr z = .obj Cn (fr z))
    (ha : DE X J S a enc m) (hb2 : DE X J S b enb n) : DE X J S (.BinOp a .Add b pos) enr (mb m fun x => mb n fun y => code x y) :=
  pe_imp (pe_op (op_addO hc (show PySem.W.findIn X.K (.ref (J.ca Cn)) (PySem.dunder "add") = _ from hs) hf F hb (C.room.mono hj) (pass_all C.tk)) ha hb2) fun σ H Q ⟨G, own, ok, fin⟩ => E_bind Fin.wish ok fin fun x v G1 H1 g1 ok1 d1 r1 => E_bind Fin.wish ok1 r1 fun y u G2 H2 g2 ok2 d2 r2 => by
    have d1' := d1.mono g2.g
    have d1o := d1'
    rw [hd x] at d1o
    have d2o := d2
    rw [hd2 y] at d2o
    cases d1o with
    | obj hq hF =>
      cases d2o with
      | obj hq2 hF2 => exact ⟨_, _, _, _, _, _, rfl, ok2.gh _ _ hq, rfl, ok2.gh _ _ hq2, sp_bin hW ok2.gh d1' d2 hr r2⟩
/-- x * i, x of a class with an own __mul__ -/
theorem e_mulO {m : M α} {n : M Int} {code : α → Int → M γ} (C : CxD X J k) (hj : j ≤ k) (hW : ∀ cls d σ τ H, J.W cls d σ H → J.W cls d τ H) (hc : PySem.W.selfFirst X.K (J.ca Cn) = true) (hm : MulI X.K (J.ca Cn)) (hs : PySem.W.findIn X.K (.ref (J.ca Cn)) "__mul__" = some (some (.ref f))) (hf : PySem.W.isFn X.K (.ref f) = true)
    (F : FnOk X.prog X.w X.K X.mg X.base (L2N.CX X.prog X.w) j f fd ps (spE X.K J.ca (xC enc (xC eI xN)) enr fun a => code a.1 a.2.1)) (hb : Binds X.K fd ps []) (hd : ∀ z, enc z = .obj Cn (fs z)) (hr : ∀ z, enr z = .obj Cn (fr z))
    (ha : DE X J S a enc m) (hb2 : DE X J S b eI n) : DE X J S (.BinOp a .Mult b pos) enr (mb m fun x => mb n fun y => code x y) :=
  pe_imp (pe_op (op_mulO hc hm (show PySem.W.findIn X.K (.ref (J.ca Cn)) (PySem.dunder "mul") = _ from hs) hf F hb (C.room.mono hj) (pass_all C.tk)) ha hb2) fun σ H Q ⟨G, own, ok, fin⟩ => E_bind Fin.wish ok fin fun x v G1 H1 g1 ok1 d1 r1 => E_bind Fin.wish ok1 r1 fun y u G2 H2 g2 ok2 d2 r2 => by
    have d1' := d1.mono g2.g
    have d1o := d1'
    rw [hd x] at d1o
    have d2' := d2
    cases d2
    cases d1o with
    | obj hq hF => exact ⟨_, _, _, _, rfl, ok2.gh _ _ hq, rfl, sp_bin hW ok2.gh d1' d2' hr r2⟩
end
end DL

namespace DL
open PySem PySem.Spec PyProof.Rows L2
variable {X : Cx} {J : Jx}
/-! ### a tuple repeated: once, or any number of times -/
theorem mul_same (l : Addr) (items : Array Value) (n : Nat) (dd : Option Addr) (sl : Array (Option Value)) (x : Int) (u : Tok) (h0 : (decide (x < -(2 ^ 63)) || decide (x ≥ 2 ^ 63)) = false) (h1 : (items.isEmpty || x == 1) = true) :
    Meets (Builtin.«tuple.__mul__» ⟨[.ref l, .int x u], []⟩) (fun _ R s => s.heap.get? l = some { cls := .type "tuple", dict := dd, data := .seq items n, slots := sl } ∧ R (.ok (.ret (Value.ref l))) s) :=
  .of_wp fun prog w A R s h => by
    obtain ⟨hp, g, d, tk, os⟩ := s
    obtain ⟨hl, h⟩ := h
    have ix := AutoSeq1.idx_int
    wp_walk using wpAny_loadPart' hl
    repeat (first
      | (refine wpAny_ite_false (decide_eq_false (by rw [h0]; exact Bool.false_ne_true)) ?_; wp_walk using wpAny_loadPart' hl)
      | (refine wpAny_ite_true (decide_eq_true h1) ?_; wp_walk using wpAny_loadPart' hl))
    exact ⟨_, rfl, h⟩
def rMulT (K : PySem.W.Frag) : R2 := fun x y H Q => ∃ l k xs, x = .ref l ∧ y = .int k ∧ SqT K H l xs ∧ ((xs = [] ∨ k = 1) ∧ k < 1000000 ∧ -1000000 < k ∧ Q (.ref l) H ∨
  xs ≠ [] ∧ 2 ≤ k ∧ k ≤ 1000 ∧ xs.length ≤ 1000 ∧ ∀ p, H p = none → Q (.ref p) (upd H p (.tup (List.replicate k.toNat xs).flatten)))
theorem op_mulT : OpR X (binaryOp .Mult) (rMulT X.K) := by
  intro pins s σ H x y v u Q I rx ry h
  obtain ⟨l, k, xs, rfl, rfl, ht, h⟩ := h
  rcases h with ⟨h1, b1, b2, q⟩ | ⟨h1, h2, h3, h4, q⟩
  · cases rx
    obtain ⟨t, rfl⟩ := ry
    obtain ⟨its, r, ⟨⟨cls, dd, data, sl⟩, ho, hc, n, hd⟩, hs⟩ := I.tuple ht
    simp only at hc hd
    subst hc hd
    have e1 : (its.toArray.isEmpty || k == 1) = true := by
      rcases h1 with h1 | h1
      · subst h1
        cases r
        rfl
      · rw [h1]
        cases its.toArray.isEmpty <;> rfl
    have e0 : (decide (k < -(2 ^ 63)) || decide (k ≥ 2 ^ 63)) = false := by
      rw [decide_eq_false (by omega), decide_eq_false (by omega)]
      rfl
    exact wpAny_binaryOp_repeat_ref (T := "tuple") (U := "int") (by decide) ⟨_, ho, rfl⟩ (fun s' => typeIs_int s' k t) noFill_tuple_mul F.fills_int_mul F.slot_int_rmul repeat_tuple F.slot_int_index.lookup
      (call_meets F.slot_int_rmul (typeIs_int s k t) F.entry_int_rmul (F.args_int_rmul_2 _ _) (int_rmul_tuple k t l its.toArray n dd sl)
        ⟨ho, rfl, ⟨_, ho, rfl⟩, call_meets F.slot_tuple_mul ⟨_, ho, rfl⟩ F.entry_tuple_mul (F.args_tuple_mul_2 _ _) (mul_same l its.toArray n dd sl k t e0 e1) ⟨ho, .ref l, H, I, rfl, q⟩⟩)
  · exact op_repT pins s σ H _ _ v u Q I rx ry ⟨l, k, xs, rfl, rfl, ht, h1, h2, h3, h4, q⟩
section
variable {α : Type} {S : List Sl} {enc : α → D} {a b : Expr} {pos : Pos}
def repTM (xs : List α) (k : Int) : M (List α) := if k = 1 ∨ (xs.length = 0 ∧ k < 1000000 ∧ -1000000 < k) ∨ (2 ≤ k ∧ k ≤ 1000 ∧ xs.length ≤ 1000) then .ok (List.replicate k.toNat xs).flatten else .no
theorem rep_nil (n : Nat) : (List.replicate n ([] : List α)).flatten = [] := by
  induction n with
  | zero => rfl
  | succ n ih => rw [List.replicate_succ, List.flatten_cons, ih]; rfl
theorem e_repT {m : M (List α)} {n : M Int} (ha : DE X J S a (eT enc) m) (hb : DE X J S b eI n) : DE X J S (.BinOp a .Mult b pos) (eT enc) (mb m fun xs => mb n fun k => repTM xs k) :=
  pe_imp (pe_op op_mulT ha hb) fun σ H Q ⟨G, own, ok, fin⟩ => E_bind Fin.wish ok fin fun xs v G1 H1 g ok1 d r => E_bind Fin.wish ok1 r fun i u G2 H2 g2 ok2 d2 r2 => by
    have d' := d.mono g2.g
    have d0 := d'
    cases d2
    obtain ⟨q, vs, rfl, h1, h2⟩ := Den.tuple (X := X) ok2.gh d'
    have el := h2.length
    rw [List.length_map] at el
    unfold repTM at r2
    split at r2
    · rename_i hz
      by_cases one : vs = [] ∨ i = 1
      · refine ⟨q, i, vs, rfl, rfl, h1, .inl ⟨one, by omega, by omega, ?_⟩⟩
        have e : (List.replicate i.toNat xs).flatten = xs := by
          rcases one with h | h
          · subst h
            rw [List.length_nil] at el
            rw [List.length_eq_zero_iff.mp el.symm]
            exact rep_nil _
          · subst h
            show (List.replicate 1 xs).flatten = xs
            simp
        rw [e] at r2
        exact r2 _ G2 H2 (Grow.refl ok2.gh) d0
      · have n0 : vs ≠ [] := fun e => one (.inl e)
        have n1 : i ≠ 1 := fun e => one (.inr e)
        have n2 : xs.length ≠ 0 := fun e => n0 (List.length_eq_zero_iff.mp (by omega))
        refine ⟨q, i, vs, rfl, rfl, h1, .inr ⟨n0, by omega, by omega, by omega, fun l hl => ?_⟩⟩
        refine r2 _ _ _ (Grow.alloc ok2.gh hl) (.tup (.of upd_same) ?_)
        rw [← map_rep]
        exact (h2.rep _).mono (same_upd (Same.free ok2.gh hl))
    · exact r2.elim
end
end DL

namespace DL
open PySem L2
/-! ## plain laws of the codes -/
/-! ### numbers -/
theorem mulL {i j : Int} (h : i.natAbs < 2 ^ 64) : mulM i j = .ok (i * j) := if_pos (.inl h)
theorem mulR {i j : Int} (h : j.natAbs < 2 ^ 64) : mulM i j = .ok (i * j) := if_pos (.inr h)
theorem modK {i j : Int} (h : 0 < j) : modM i j = .ok (i % j) := if_pos h
theorem divK {i j : Int} (h : 0 < j) (h2 : j < 2 ^ 1000) : divM i j = .ok (i / j) := if_pos ⟨h, h2⟩
theorem powK {i j : Int} (h : 0 ≤ j) (h2 : j ≤ 1000) (h3 : i.natAbs < 2 ^ 64) : powM i j = .ok (i ^ j.toNat) := if_pos ⟨h, h2, h3⟩
theorem pow9 : powM 10 9 = .ok 1000000000 := by rw [powK (by decide) (by decide) (by decide)]; rfl
theorem pow12 : powM 10 12 = .ok 1000000000000 := by rw [powK (by decide) (by decide) (by decide)]; rfl
theorem pow18 : powM 10 18 = .ok 1000000000000000000 := by rw [powK (by decide) (by decide) (by decide)]; rfl
theorem okI_of {i : Int} (h : -4000000000000000000 ≤ i) (h2 : i ≤ 4000000000000000000) : okI i = true := by
  unfold okI
  exact decide_eq_true ⟨by omega, by omega⟩
theorem rngK {lo hi : Int} (h1 : -4000000000000000000 ≤ lo) (h2 : lo ≤ 4000000000000000000) (h3 : -4000000000000000000 ≤ hi) (h4 : hi ≤ 4000000000000000000) : rngM lo hi = .ok (rng lo hi) := by
  unfold rngM
  rw [okI_of h1 h2, okI_of h3 h4]; rfl
theorem rngLK {lo hi : Int} (h1 : -1000000 ≤ lo) (h2 : lo ≤ 1000000) (h3 : -1000000 ≤ hi) (h4 : hi ≤ 1000000) : rngL lo hi = .ok (rng lo hi) := by
  unfold rngL
  rw [okI_of (by omega) (by omega), okI_of (by omega) (by omega)]
  have : decide ((hi - lo).toNat ≤ line) = true := decide_eq_true (by unfold line; omega)
  rw [this]; rfl
/-! ### items -/
theorem ixE {α : Type} {xs : List α} {i : Int} {x : α} (h : 0 ≤ i) (h2 : xs[i.toNat]? = some x) : ixM xs i = .ok x := by
  obtain ⟨n, rfl⟩ := Int.eq_ofNat_of_zero_le h
  have q : atI xs (n : Int) = some x := atI_nat (by simpa using h2)
  unfold ixM
  rw [q]
theorem ixK {α : Type} {xs : List α} {i : Int} (h : 0 ≤ i) (h2 : i < xs.length) : ∃ x, xs[i.toNat]? = some x ∧ ixM xs i = .ok x := by
  have hl : i.toNat < xs.length := by omega
  exact ⟨xs[i.toNat], List.getElem?_eq_getElem hl, ixE h (List.getElem?_eq_getElem hl)⟩
theorem rng_getE {lo hi : Int} {i : Nat} {x : Int} (h : (rng lo hi)[i]? = some x) : x = lo + i ∧ i < (hi - lo).toNat := by
  have hl : i < (rng lo hi).length := (List.getElem?_eq_some_iff.mp h).1
  rw [rng_len] at hl
  rw [rng_get hl] at h
  cases h
  exact ⟨rfl, hl⟩
theorem mem_rng {lo hi x : Int} : x ∈ rng lo hi ↔ lo ≤ x ∧ x < hi := by
  unfold rng
  rw [List.mem_map]
  constructor
  · rintro ⟨i, h, rfl⟩
    rw [List.mem_range] at h
    omega
  · rintro ⟨h1, h2⟩
    exact ⟨(x - lo).toNat, List.mem_range.mpr (by omega), by omega⟩
theorem rng_nil {lo hi : Int} (h : hi ≤ lo) : rng lo hi = [] := by
  unfold rng
  rw [show (hi - lo).toNat = 0 by omega]; rfl
theorem rng_app {lo mid hi : Int} (h1 : lo ≤ mid) (h2 : mid ≤ hi) : rng lo hi = rng lo mid ++ rng mid hi := by
  apply List.ext_getElem?
  intro i
  by_cases h : i < (mid - lo).toNat
  · rw [List.getElem?_append_left (by rw [rng_len]; exact h), rng_get h, rng_get (by omega)]
  · rw [List.getElem?_append_right (by rw [rng_len]; omega), rng_len]
    by_cases h3 : i < (hi - lo).toNat
    · rw [rng_get h3, rng_get (by omega)]
      congr 1
      omega
    · rw [List.getElem?_eq_none (by rw [rng_len]; omega), List.getElem?_eq_none (by rw [rng_len]; omega)]
theorem rng_map {lo hi d : Int} : (rng lo hi).map (fun x => x + d) = rng (lo + d) (hi + d) := by
  unfold rng
  rw [List.map_map, show (hi + d - (lo + d)).toNat = (hi - lo).toNat by omega]
  apply List.map_congr_left
  intro i _
  show lo + (i : Int) + d = lo + d + i
  omega
/-! ### loops -/
section
variable {α γ δ ρ : Type}
/-- a loop by an invariant: what is wanted of its outcome -/
theorem forM_wp {f : α → γ → M (Out γ γ ρ)} (Q : M (Out γ δ ρ) → Prop) : ∀ (xs : List α) (s0 : γ) (I : Nat → γ → Prop), I 0 s0 →
    (∀ (i : Nat) (x : α) (s : γ), xs[i]? = some x → I i s → match f x s with
      | .ok (.nx s') => I (i + 1) s'
      | .ok (.ct s') => I (i + 1) s'
      | .ok (.bk s') => Q (.ok (.nx s'))
      | .ok (.rt r) => Q (.ok (.rt r))
      | .er e => Q (.er e)
      | .no => Q .no) → (∀ s, I xs.length s → Q (.ok (.nx s))) → Q (forM f xs s0)
  | [], s0, I, h0, _, hf => hf s0 h0
  | x :: xs, s0, I, h0, hs, hf => by
    have h := hs 0 x s0 rfl h0
    have again : ∀ s', I 1 s' → Q (forM f xs s') := fun s' h1 =>
      forM_wp Q xs s' (fun i s => I (i + 1) s) h1 (fun i y s hy hi => hs (i + 1) y s (by simpa using hy) hi) fun s hi => hf s hi
    unfold forM
    cases hfx : f x s0 with
    | ok o =>
      rw [hfx] at h
      cases o with
      | nx s' => exact again s' h
      | ct s' => exact again s' h
      | bk s' => exact h
      | rt r => exact h
    | er e => rw [hfx] at h; exact h
    | no => rw [hfx] at h; exact h
/-- it runs to its end -/
theorem forM_run {f : α → γ → M (Out γ γ ρ)} (xs : List α) (s0 : γ) (I : Nat → γ → Prop) (h0 : I 0 s0) (hs : ∀ (i : Nat) (x : α) (s : γ), xs[i]? = some x → I i s → ∃ s', f x s = .ok (.nx s') ∧ I (i + 1) s') :
    ∃ s, (forM f xs s0 : M (Out γ δ ρ)) = .ok (.nx s) ∧ I xs.length s :=
  forM_wp (fun m => ∃ s, m = .ok (.nx s) ∧ I xs.length s) xs s0 I h0 (fun i x s hx hi => by
    obtain ⟨s', h1, h2⟩ := hs i x s hx hi
    rw [h1]
    exact h2) fun s h => ⟨s, rfl, h⟩
/-- nothing happens in it -/
theorem forM_pass {f : α → γ → M (Out γ γ ρ)} : ∀ {xs : List α} {s0 : γ}, (∀ x ∈ xs, f x s0 = .ok (.nx s0)) → (forM f xs s0 : M (Out γ δ ρ)) = .ok (.nx s0)
  | [], _, _ => rfl
  | x :: xs, s0, h => by
    unfold forM
    rw [h x List.mem_cons_self]
    exact forM_pass fun y hy => h y (List.mem_cons_of_mem _ hy)
/-- it leaves at the first x that c tells -/
theorem forM_brk {f : α → γ → M (Out γ γ ρ)} (c : α → Bool) (g : α → γ → γ) : ∀ {xs : List α} {s0 : γ}, (∀ x ∈ xs, ∀ s, f x s = if c x then .ok (.bk s) else .ok (.nx (g x s))) →
    (forM f xs s0 : M (Out γ δ ρ)) = .ok (.nx ((xs.takeWhile fun x => !c x).foldl (fun s x => g x s) s0))
  | [], _, _ => rfl
  | x :: xs, s0, h => by
    unfold forM
    rw [h x List.mem_cons_self]
    cases hc : c x with
    | true => simp [hc]
    | false =>
      simp only [Bool.false_eq_true, if_false]
      rw [forM_brk c g fun y hy => h y (List.mem_cons_of_mem _ hy)]
      simp [hc]
/-- .. or returns there -/
theorem forM_ret {f : α → γ → M (Out γ γ ρ)} (c : α → Bool) (r : α → ρ) : ∀ {xs : List α} {s0 : γ}, (∀ x ∈ xs, f x s0 = if c x then .ok (.rt (r x)) else .ok (.nx s0)) →
    (forM f xs s0 : M (Out γ δ ρ)) = match xs.find? c with
      | some x => .ok (.rt (r x))
      | none => .ok (.nx s0)
  | [], _, _ => rfl
  | x :: xs, s0, h => by
    unfold forM
    rw [h x List.mem_cons_self]
    cases hc : c x with
    | true => simp [hc]
    | false =>
      simp only [Bool.false_eq_true, if_false, List.find?, hc]
      exact forM_ret c r fun y hy => h y (List.mem_cons_of_mem _ hy)
theorem foldl_app {xs acc : List α} : xs.foldl (fun s x => s ++ [x]) acc = acc ++ xs := by
  induction xs generalizing acc with
  | nil => simp
  | cons x xs ih => rw [List.foldl_cons, ih]; simp
theorem forM_congr {f g : α → γ → M (Out γ γ ρ)} : ∀ {xs : List α} {s0 : γ}, (∀ x ∈ xs, ∀ s, f x s = g x s) → (forM f xs s0 : M (Out γ δ ρ)) = forM g xs s0
  | [], _, _ => rfl
  | x :: xs, s0, h => by
    unfold forM
    rw [h x List.mem_cons_self]
    have ih : ∀ s, (forM f xs s : M (Out γ δ ρ)) = forM g xs s := fun s => forM_congr fun y hy => h y (List.mem_cons_of_mem _ hy)
    cases g x s0 with
    | ok o => cases o <;> simp [ih]
    | er e => rfl
    | no => rfl
end
theorem tw_map {α β : Type} (f : α → β) (q : β → Bool) : ∀ xs : List α, (xs.map f).takeWhile q = (xs.takeWhile fun x => q (f x)).map f
  | [] => rfl
  | x :: xs => by
    rw [List.map_cons]
    cases h : q (f x) with
    | true => simp [h, tw_map f q xs]
    | false => simp [h]
theorem tw_len {α : Type} (q : α → Bool) (xs : List α) : (xs.takeWhile q).length ≤ xs.length := (List.takeWhile_prefix q).length_le
theorem lineK {n : Nat} (h : n ≤ 1000000) : n ≤ line := Nat.le_trans h (by decide)
theorem appK {α : Type} {xs : List α} {x : α} (h : xs.length ≤ 1000000) : app xs x = .ok (xs ++ [x]) := app_ok (Nat.lt_of_le_of_lt h (by decide))
theorem catK {α : Type} {xs ys : List α} (h : xs.length + ys.length ≤ 1000000) : catM xs ys = .ok (xs ++ ys) := if_pos (lineK h)
theorem repK {α : Type} {xs : List α} {k : Int} (h : xs.length * k.toNat ≤ 1000000) (h2 : k < 1000000) (h3 : 0 ≤ k) : repM xs k = .ok (List.replicate k.toNat xs).flatten := if_pos ⟨lineK h, by omega, by omega⟩
theorem rep1 {α : Type} {x : α} {k : Int} (h2 : k < 1000000) (h3 : 0 ≤ k) : repM [x] k = .ok (List.replicate k.toNat x) := by
  rw [repK (by rw [List.length_singleton]; omega) h2 h3]
  congr 1
  generalize k.toNat = n
  induction n with
  | zero => rfl
  | succ n ih => rw [List.replicate_succ, List.flatten_cons, ih, List.replicate_succ]; rfl
theorem cut1 {α : Type} (xs : List α) : cut xs (some 1) none = xs.drop 1 := by
  unfold cut
  rw [show HT.sIx xs.length 0 (some 1) = min 1 xs.length from HT.sIx_nat xs.length 0 1, HT.sIx_none]
  cases xs with
  | nil => rfl
  | cons x r =>
    rw [show min 1 (x :: r).length = 1 by rw [List.length_cons]; omega]
    show (List.take ((x :: r).length - 1) r) = r
    rw [List.length_cons, Nat.add_sub_cancel]
    exact List.take_length
end DL

namespace DL
open PySem L2
/-! ## the laws' own helpers, the standing -/
def kc__law_cell (script : (List Int)) (k : Int) : M (Out Unit Empty Int) := if (decide (k < (script.length : Int))) = true then mb (ixM script k) fun v1 => .ok (.rt v1)
    else .ok (.rt 0)
def k__law_cell (script : (List Int)) (k : Int) : M Int := fnV .no (kc__law_cell script k)
def kc__law_draws (cell : Int) (sizes : (List Int)) : M (Out Unit Empty (List Int)) := mb (rngM 0 (sizes.length : Int)) fun v1 => sq (forM (fun (k2 : Int) (s3 : Int × List Int) =>
    mb (mb (powM 10 18) fun v4 => (.ok (decide (v4 ≤ cell)))) fun v5 => if v5 = true then mb (mb (ixM sizes k2) fun v6 => modM s3.1 v6) fun v7 => mb (app s3.2 v7) fun draws8 =>
    mb (mb (ixM sizes k2) fun v9 => divM s3.1 v9) fun left10 =>
    .ok (.nx (left10, draws8))
    else mb (mb (mb (mb (mulM 7919 k2) fun v11 => (.ok (cell + v11))) fun v12 => (.ok (v12 + 13))) fun v13 => modM v13 2147483647) fun mixed14 =>
    mb (mb (mulM mixed14 (mixed14 + 48271)) fun v15 => modM v15 2147483629) fun mixed16 =>
    mb (mb (mb (mulM mixed16 (mixed16 + 69621)) fun v17 => mb (mulM 31 k2) fun v18 => (.ok (v17 + v18))) fun v19 => modM v19 2147483647) fun mixed20 =>
    mb (mb (divM mixed20 9) fun v21 => mb (ixM sizes k2) fun v22 => modM v21 v22) fun v23 => mb (app s3.2 v23) fun draws24 =>
    .ok (.nx (s3.1, draws24))) v1 (cell, ([] : List Int))) fun s25 =>
    .ok (.rt s25.2)
def k__law_draws (cell : Int) (sizes : (List Int)) : M (List Int) := fnV .no (kc__law_draws cell sizes)
def kc__law_lengths (cell : Int) (many : Int) : M (Out Unit Empty (List Int)) := mb (mb (k__law_draws cell [4]) fun v1 => ixM v1 0) fun flavour2 =>
    mb (mb (mb (powM 10 9) fun v3 => (.ok [1, 1, 4, v3])) fun v4 => ixM v4 flavour2) fun size5 =>
    mb (mb (mb (mb (mb (repM [size5] many) fun v6 => catM [4] v6) fun v7 => k__law_draws cell v7) fun v8 => (.ok (cut v8 (some 1) none))) fun v9 => mapC (fun draw10 => (.ok (1 + draw10))) v9) fun v11 => .ok (.rt v11)
def k__law_lengths (cell : Int) (many : Int) : M (List Int) := fnV .no (kc__law_lengths cell many)
def kc__law_strengths (cell : Int) (sizes : (List Int)) : M (Out Unit Empty (List Int)) := mb (mb (k__law_draws cell [6]) fun v1 => ixM v1 0) fun flavour2 =>
    if (decide (flavour2 = 3)) = true then mb (mb (mb (mb (mapC (fun size3 => (.ok (size3 + 1))) sizes) fun v4 => catM [6] v4) fun v5 => k__law_draws cell v5) fun v6 => (.ok (cut v6 (some 1) none))) fun v7 => .ok (.rt v7)
    else if (decide (flavour2 = 4)) = true then mb (mb (k__law_draws cell [6, sizes.sum + 3]) fun v8 => ixM v8 1) fun level9 =>
    mb (mapC (fun size10 => (.ok level9)) sizes) fun v11 => .ok (.rt v11)
    else mb (mb (mb (mb (powM 10 12) fun v12 => (.ok (v12 + 1))) fun v13 => (.ok [3, (sizes.length : Int) + 2, sizes.sum + 3, 0, 0, v13])) fun v14 => ixM v14 flavour2) fun most15 =>
    mb (mb (mb (mb (repM [most15] (sizes.length : Int)) fun v16 => catM [6] v16) fun v17 => k__law_draws cell v17) fun v18 => (.ok (cut v18 (some 1) none))) fun v19 => .ok (.rt v19)
def k__law_strengths (cell : Int) (sizes : (List Int)) : M (List Int) := fnV .no (kc__law_strengths cell sizes)
def kc_Beads___init__ (strengths : (List Int)) (lengths : (List Int)) (ring : Bool) : M (Out BV Empty Unit) := (fun (j1 : (List Int)) =>
    if ((decide (strengths = ([] : List Int))) || (!decide ((j1.length : Int) = (strengths.length : Int)))) = true then .er ⟨"BadBeads", [("place", eI (-1))]⟩
    else mb (rngM 0 (strengths.length : Int)) fun v2 => sq (forM (fun (place3 : Int) (s4 : Unit) =>
    mb (mb (mb (ixM strengths place3) fun v5 => (.ok (decide (v5 < 0)))) fun v6 => if v6 = true then .ok true else mb (ixM j1 place3) fun v7 => (.ok (decide (v7 < 1)))) fun v8 => if v8 = true then .er ⟨"BadBeads", [("place", eI place3)]⟩
    else .ok (.nx ())) v2 ()) fun s9 =>
    .ok (.nx ⟨strengths, j1, ring⟩)) lengths
def k_Beads___init__ (strengths : (List Int)) (lengths : (List Int)) (ring : Bool) : M BV := fnI (kc_Beads___init__ strengths lengths ring)
def kc_Beads___len__ (self : BV) : M (Out Unit Empty Int) := .ok (.rt (self.strengths.length : Int))
def k_Beads___len__ (self : BV) : M Int := fnV .no (kc_Beads___len__ self)
def kc_check_place (place : Int) (size : Int) : M (Out Unit Empty Unit) := if ((decide (place < 0)) || (decide (size ≤ place))) = true then .er ⟨"BadPlace", [("place", eI place)]⟩
    else .ok (.nx ())
def k_check_place (place : Int) (size : Int) : M Unit := fnV (.ok ()) (kc_check_place place size)
def kc_run_of (beads : BV) (place : Int) : M (Out Unit Empty (List Int)) := mb (mb (mb (k_Beads___len__ beads) lenO) fun v1 => rngL (place + 1) v1) fun after2 =>
    sq (if beads.ring = true then mb (mb (rngL 0 place) fun v3 => catM after2 v3) fun after4 =>
    .ok (.nx after4) else .ok (.nx after2)) fun (j5 : List Int) =>
    .ok (.rt j5)
def k_run_of (beads : BV) (place : Int) : M (List Int) := fnV .no (kc_run_of beads place)
def kc_train_of (beads : BV) (place : Int) : M (Out Unit Empty (List Int)) := mb (mb (mb (k_Beads___len__ beads) lenO) fun v1 => k_check_place place v1) fun v2 => mb (k_run_of beads place) fun v3 => sq (forM (fun (at4 : Int) (s5 : List Int) =>
    mb (mb (ixM beads.strengths at4) fun v6 => mb (ixM beads.strengths place) fun v7 => (.ok (decide (v7 ≤ v6)))) fun v8 => if v8 = true then .ok (.bk s5)
    else mb (app s5 at4) fun train9 =>
    .ok (.nx train9)) v3 ([] : List Int)) fun s10 =>
    .ok (.rt s10)
def k_train_of (beads : BV) (place : Int) : M (List Int) := fnV .no (kc_train_of beads place)
def kc_reach_of (beads : BV) (place : Int) : M (Out Unit Empty Int) := mb (k_train_of beads place) fun train1 =>
    mb (mb (ixM beads.lengths place) fun v2 => mb (mb (mapC (fun at3 => ixM beads.lengths at3) train1) fun v4 => (.ok v4.sum)) fun v5 => (.ok (v2 + v5))) fun v6 => .ok (.rt v6)
def k_reach_of (beads : BV) (place : Int) : M Int := fnV .no (kc_reach_of beads place)
def kc_reaches (beads : BV) : M (Out Unit Empty (List Int)) := mb (mb (mb (mb (k_Beads___len__ beads) lenO) fun v1 => rngM 0 v1) fun v2 => mapC (fun place3 => k_reach_of beads place3) v2) fun v4 => .ok (.rt v4)
def k_reaches (beads : BV) : M (List Int) := fnV .no (kc_reaches beads)
def kc_stopper_of (beads : BV) (place : Int) : M (Out Unit Empty (Option Int)) := mb (mb (mb (k_Beads___len__ beads) lenO) fun v1 => k_check_place place v1) fun v2 => mb (k_run_of beads place) fun v3 => sq (forM (fun (at4 : Int) (s5 : Unit) =>
    mb (mb (ixM beads.strengths at4) fun v6 => mb (ixM beads.strengths place) fun v7 => (.ok (decide (v7 ≤ v6)))) fun v8 => if v8 = true then .ok (.rt (some at4))
    else .ok (.nx ())) v3 ()) fun s9 =>
    .ok (.rt (none : Option Int))
def k_stopper_of (beads : BV) (place : Int) : M (Option Int) := fnV (.ok none) (kc_stopper_of beads place)
def kc__law_is_integer (actual : Int) : M (Out Unit Empty Bool) := .ok (.rt (true && (!false)))
def k__law_is_integer (actual : Int) : M Bool := fnV .no (kc__law_is_integer actual)
def kc__law_is_integer_v1 (actual : (Option Int)) : M (Out Unit Empty Bool) := .ok (.rt ((if actual.isSome = true then true else false) && (!(if actual.isSome = true then false else false))))
def k__law_is_integer_v1 (actual : (Option Int)) : M Bool := fnV .no (kc__law_is_integer_v1 actual)
def kc__law_numbers (actual : (List Int)) (due : (List Int)) (as_tuple : Bool) : M (Out Unit Empty Bool) := if ((as_tuple && (!false)) || ((!as_tuple) && (!true))) = true then .ok (.rt false)
    else if (!decide ((actual.length : Int) = (due.length : Int))) = true then .ok (.rt false)
    else mb (rngM 0 (due.length : Int)) fun v1 => sq (forM (fun (k2 : Int) (s3 : Unit) =>
    mb (mb (mb (mb (ixM actual k2) fun v4 => k__law_is_integer v4) fun v5 => (.ok (!v5))) fun v6 => if v6 = true then .ok true else mb (ixM actual k2) fun v7 => mb (ixM due k2) fun v8 => (.ok (!decide (v7 = v8)))) fun v9 => if v9 = true then .ok (.rt false)
    else .ok (.nx ())) v1 ()) fun s10 =>
    .ok (.rt true)
def k__law_numbers (actual : (List Int)) (due : (List Int)) (as_tuple : Bool) : M Bool := fnV .no (kc__law_numbers actual due as_tuple)
def kc__law_numbers_v1 (actual : (List Int)) (due : (List Int)) (as_tuple : Bool) : M (Out Unit Empty Bool) := if ((as_tuple && (!true)) || ((!as_tuple) && (!false))) = true then .ok (.rt false)
    else if (!decide ((actual.length : Int) = (due.length : Int))) = true then .ok (.rt false)
    else mb (rngM 0 (due.length : Int)) fun v1 => sq (forM (fun (k2 : Int) (s3 : Unit) =>
    mb (mb (mb (mb (ixM actual k2) fun v4 => k__law_is_integer v4) fun v5 => (.ok (!v5))) fun v6 => if v6 = true then .ok true else mb (ixM actual k2) fun v7 => mb (ixM due k2) fun v8 => (.ok (!decide (v7 = v8)))) fun v9 => if v9 = true then .ok (.rt false)
    else .ok (.nx ())) v1 ()) fun s10 =>
    .ok (.rt true)
def k__law_numbers_v1 (actual : (List Int)) (due : (List Int)) (as_tuple : Bool) : M Bool := fnV .no (kc__law_numbers_v1 actual due as_tuple)
def kc__law_is_standing (actual : BV) (round_flag : Bool) (sizes : (List Int)) (strengths : (List Int)) : M (Out Unit Empty Bool) := if ((!true) || ((!true) || (!decide (actual.ring = round_flag)))) = true then .ok (.rt false)
    else mb (mb (k__law_numbers_v1 actual.lengths sizes true) fun v1 => if v1 = true then k__law_numbers_v1 actual.strengths strengths true else .ok false) fun v2 => .ok (.rt v2)
def k__law_is_standing (actual : BV) (round_flag : Bool) (sizes : (List Int)) (strengths : (List Int)) : M Bool := fnV .no (kc__law_is_standing actual round_flag sizes strengths)
theorem k_ok {β γ ρ : Type} {d : M ρ} {x : ρ} : fnV d (.ok (.rt x) : M (Out β γ ρ)) = .ok x := rfl
theorem cellK (ns : List Int) {k : Int} (h : 0 ≤ k) : ∃ c, k__law_cell ns k = .ok c := by
  unfold k__law_cell kc__law_cell
  by_cases q : k < (ns.length : Int)
  · obtain ⟨x, _, h2⟩ := ixK h q
    rw [if_pos (decide_eq_true q), h2]
    exact ⟨x, rfl⟩
  · rw [if_neg (by simp [q])]
    exact ⟨0, rfl⟩
/-- what a draw may be -/
def Drawn (sizes ds : List Int) : Prop := ds.length = sizes.length ∧ ∀ (i : Nat) (s d : Int), sizes[i]? = some s → ds[i]? = some d → 0 ≤ d ∧ d < s
theorem drawsK (cell : Int) {sizes : List Int} (hl : sizes.length ≤ 100000) (hs : ∀ s ∈ sizes, 0 < s ∧ s < 2 ^ 100) : ∃ ds, k__law_draws cell sizes = .ok ds ∧ Drawn sizes ds := by
  unfold k__law_draws kc__law_draws
  rw [rngK (by decide) (by decide) (by omega) (by omega), mbk]
  obtain ⟨s, h1, h2, h3⟩ := forM_run (ρ := List Int) (δ := Empty) (f := fun (k2 : Int) (s3 : Int × List Int) =>
    mb (mb (powM 10 18) fun v4 => (.ok (decide (v4 ≤ cell)))) fun v5 => if v5 = true then mb (mb (ixM sizes k2) fun v6 => modM s3.1 v6) fun v7 => mb (app s3.2 v7) fun draws8 =>
    mb (mb (ixM sizes k2) fun v9 => divM s3.1 v9) fun left10 =>
    .ok (.nx (left10, draws8))
    else mb (mb (mb (mb (mulM 7919 k2) fun v11 => (.ok (cell + v11))) fun v12 => (.ok (v12 + 13))) fun v13 => modM v13 2147483647) fun mixed14 =>
    mb (mb (mulM mixed14 (mixed14 + 48271)) fun v15 => modM v15 2147483629) fun mixed16 =>
    mb (mb (mb (mulM mixed16 (mixed16 + 69621)) fun v17 => mb (mulM 31 k2) fun v18 => (.ok (v17 + v18))) fun v19 => modM v19 2147483647) fun mixed20 =>
    mb (mb (divM mixed20 9) fun v21 => mb (ixM sizes k2) fun v22 => modM v21 v22) fun v23 => mb (app s3.2 v23) fun draws24 =>
    .ok (.nx (s3.1, draws24))) (rng 0 (sizes.length : Int)) (cell, []) (fun i s => s.2.length = i ∧ ∀ (j : Nat) (z d : Int), sizes[j]? = some z → s.2[j]? = some d → 0 ≤ d ∧ d < z) ⟨rfl, fun j z d _ h => by simp at h⟩ (fun i x s hx hi => by
      obtain ⟨rfl, hlt⟩ := rng_getE hx
      have hlt' : i < sizes.length := by omega
      obtain ⟨hlen, hall⟩ := hi
      have hz : sizes[(0 + (i : Int)).toNat]? = some sizes[i] := by
        rw [show (0 + (i : Int)).toNat = i by omega]; exact List.getElem?_eq_getElem hlt'
      have hix : ixM sizes (0 + (i : Int)) = .ok sizes[i] := ixE (by omega) hz
      have hpos := hs _ (List.getElem_mem hlt')
      have add : ∀ d : Int, 0 ≤ d ∧ d < sizes[i] → (s.2 ++ [d]).length = i + 1 ∧ ∀ (j : Nat) (z d' : Int), sizes[j]? = some z → (s.2 ++ [d])[j]? = some d' → 0 ≤ d' ∧ d' < z := fun d hd => by
        refine ⟨by rw [List.length_append, hlen]; rfl, fun j z d' hj hd' => ?_⟩
        by_cases hji : j < s.2.length
        · rw [List.getElem?_append_left hji] at hd'
          exact hall j z d' hj hd'
        · rw [List.getElem?_append_right (by omega)] at hd'
          have : j - s.2.length = 0 := by
            cases q : j - s.2.length with
            | zero => rfl
            | succ n => rw [q] at hd'; simp at hd'
          have hj' : j = i := by omega
          subst hj'
          rw [this] at hd'
          rw [List.getElem?_eq_getElem hlt'] at hj
          cases hj
          simp at hd'
          subst hd'
          exact hd
      have mm : ∀ a : Int, 0 ≤ a % sizes[i] ∧ a % sizes[i] < sizes[i] := fun a => ⟨Int.emod_nonneg _ (by omega), Int.emod_lt_of_pos _ hpos.1⟩
      have p100 : (2 : Int) ^ 100 < 2 ^ 1000 := by decide
      simp only [pow18, mbk, hix]
      by_cases hc : (1000000000000000000 : Int) ≤ cell
      · rw [if_pos (decide_eq_true hc), modK hpos.1]
        simp only [mbk]
        rw [appK (by omega)]
        simp only [mbk]
        rw [divK hpos.1 (by omega)]
        exact ⟨_, rfl, add _ (mm _)⟩
      · rw [if_neg (by simp [hc])]
        rw [mulL (by decide)]
        simp only [mbk]
        rw [modK (by decide)]
        simp only [mbk]
        have b1 : ∀ a : Int, 0 ≤ a % 2147483647 ∧ a % 2147483647 < 2147483647 := fun a => ⟨Int.emod_nonneg _ (by decide), Int.emod_lt_of_pos _ (by decide)⟩
        have b2 : ∀ a : Int, 0 ≤ a % 2147483629 ∧ a % 2147483629 < 2147483629 := fun a => ⟨Int.emod_nonneg _ (by decide), Int.emod_lt_of_pos _ (by decide)⟩
        generalize e1 : (cell + 7919 * (0 + (i : Int)) + 13) % 2147483647 = m1
        have h1 := b1 (cell + 7919 * (0 + (i : Int)) + 13)
        rw [e1] at h1
        rw [mulL (by omega)]
        simp only [mbk]
        rw [modK (by decide)]
        simp only [mbk]
        generalize e2 : (m1 * (m1 + 48271)) % 2147483629 = m2
        have h2 := b2 (m1 * (m1 + 48271))
        rw [e2] at h2
        rw [mulL (by omega)]
        simp only [mbk]
        rw [mulL (by decide)]
        simp only [mbk]
        rw [modK (by decide)]
        simp only [mbk]
        rw [divK (by decide) (by decide)]
        simp only [mbk]
        rw [modK hpos.1]
        simp only [mbk]
        rw [appK (by omega)]
        exact ⟨_, rfl, add _ (mm _)⟩)
  refine ⟨s.2, ?_, ?_⟩
  · show fnV .no (sq (forM _ _ _) _) = _
    have h1' : (forM _ _ _ : M (Out (Int × List Int) Empty (List Int))) = _ := h1
    rw [h1', sqk]
    rfl
  · rw [rng_len] at h2
    exact ⟨by omega, h3⟩
theorem Drawn.at {sizes ds : List Int} (h : Drawn sizes ds) (i : Nat) {s : Int} (hs : sizes[i]? = some s) : ∃ d, ixM ds (i : Int) = .ok d ∧ ds[i]? = some d ∧ 0 ≤ d ∧ d < s := by
  have hl : i < ds.length := by rw [h.1]; exact (List.getElem?_eq_some_iff.mp hs).1
  have e := List.getElem?_eq_getElem hl
  obtain ⟨h1, h2⟩ := h.2 i s _ hs e
  exact ⟨ds[i], ixE (by omega) (by simpa using e), e, h1, h2⟩
theorem Drawn.drop {s : Int} {sizes ds : List Int} (h : Drawn (s :: sizes) ds) : Drawn sizes (ds.drop 1) := by
  refine ⟨by rw [List.length_drop, h.1]; rfl, fun i z d hz hd => ?_⟩
  rw [List.getElem?_drop] at hd
  exact h.2 (1 + i) z d (by rw [Nat.add_comm]; simpa using hz) hd
theorem Drawn.mem {sizes ds : List Int} (h : Drawn sizes ds) {d : Int} (hd : d ∈ ds) : ∃ s ∈ sizes, 0 ≤ d ∧ d < s := by
  obtain ⟨i, hi, rfl⟩ := List.mem_iff_getElem.mp hd
  have hl : i < sizes.length := by rw [← h.1]; exact hi
  exact ⟨sizes[i], List.getElem_mem hl, h.2 i _ _ (List.getElem?_eq_getElem hl) (List.getElem?_eq_getElem hi)⟩
theorem mapCk {α β : Type} {g : α → β} {xs : List α} (hl : xs.length ≤ 1000000) : mapC (fun x => .ok (g x)) xs = .ok (xs.map g) := mapC_ok (lineK hl) fun _ _ => rfl
theorem le_sum {xs : List Int} (h : ∀ x ∈ xs, 1 ≤ x ∧ x ≤ 1000000000) : 0 ≤ xs.sum ∧ xs.sum ≤ 1000000000 * (xs.length : Int) := by
  induction xs with
  | nil => simp
  | cons x xs ih =>
    obtain ⟨h1, h2⟩ := ih fun y hy => h y (List.mem_cons_of_mem _ hy)
    have h3 := h x List.mem_cons_self
    rw [List.sum_cons, List.length_cons]
    omega
theorem lengthsK (cell : Int) {many : Int} (h : 0 ≤ many) (h2 : many ≤ 90000) : ∃ zs, k__law_lengths cell many = .ok zs ∧ zs.length = many.toNat ∧ ∀ z ∈ zs, 1 ≤ z ∧ z ≤ 1000000000 := by
  unfold k__law_lengths kc__law_lengths
  obtain ⟨ds, e1, d1⟩ := drawsK cell (sizes := [4]) (by decide) (fun s hs => by rw [List.mem_singleton.mp hs]; decide)
  obtain ⟨f, e2, _, f1, f2⟩ := d1.at 0 rfl
  rw [e1, mbk, show ((0 : Nat) : Int) = 0 from rfl] at *
  rw [e2]
  simp only [pow9, mbk]
  have hsz : ∃ sz, ixM [1, 1, 4, (1000000000 : Int)] f = .ok sz ∧ 1 ≤ sz ∧ sz ≤ 1000000000 := by
    have : f = 0 ∨ f = 1 ∨ f = 2 ∨ f = 3 := by omega
    rcases this with rfl | rfl | rfl | rfl
    · exact ⟨1, rfl, by decide, by decide⟩
    · exact ⟨1, rfl, by decide, by decide⟩
    · exact ⟨4, rfl, by decide, by decide⟩
    · exact ⟨1000000000, rfl, by decide, by decide⟩
  obtain ⟨sz, e3, s1, s2⟩ := hsz
  rw [e3]
  simp only [mbk]
  rw [rep1 (by omega) h, mbk, catK (by simp; omega), mbk]
  obtain ⟨es, e4, d2⟩ := drawsK cell (sizes := [4] ++ List.replicate many.toNat sz) (by simp; omega) (fun s hs => by
    rcases List.mem_append.mp hs with hs | hs
    · rw [List.mem_singleton.mp hs]; decide
    · rw [(List.mem_replicate.mp hs).2]; omega)
  have d3 : Drawn (List.replicate many.toNat sz) (es.drop 1) := d2.drop
  rw [e4, mbk, mbk, cut1]
  have hl3 : (es.drop 1).length = many.toNat := by rw [d3.1, List.length_replicate]
  rw [mapCk (by omega), mbk]
  refine ⟨_, rfl, by rw [List.length_map, hl3], fun z hz => ?_⟩
  obtain ⟨d, hd, rfl⟩ := List.mem_map.mp hz
  obtain ⟨s, hs, h3, h4⟩ := d3.mem hd
  rw [(List.mem_replicate.mp hs).2] at h4
  omega
theorem strengthsB (cell : Int) {sizes : List Int} {B : Int} (hl : sizes.length ≤ 90000) (hs : ∀ z ∈ sizes, 1 ≤ z ∧ z ≤ 1000000000) (hB : 1000000000000 ≤ B) (hB2 : sizes.sum + 2 ≤ B) :
    ∃ ss, k__law_strengths cell sizes = .ok ss ∧ ss.length = sizes.length ∧ ∀ s ∈ ss, 0 ≤ s ∧ s ≤ B := by
  unfold k__law_strengths kc__law_strengths
  obtain ⟨ds, e1, d1⟩ := drawsK cell (sizes := [6]) (by decide) (fun s hs => by rw [List.mem_singleton.mp hs]; decide)
  obtain ⟨f, e2, _, f1, f2⟩ := d1.at 0 rfl
  rw [e1, mbk, show ((0 : Nat) : Int) = 0 from rfl] at *
  rw [e2]
  obtain ⟨t1, t2⟩ := le_sum hs
  simp only [mbk]
  by_cases h3 : f = 3
  · rw [if_pos (decide_eq_true h3), mapCk (g := fun x : Int => x + 1) (by omega), mbk, catK (by simp; omega), mbk]
    obtain ⟨es, e4, d2⟩ := drawsK cell (sizes := [6] ++ sizes.map fun x => x + 1) (by simp; omega) (fun s hs' => by
      rcases List.mem_append.mp hs' with hs' | hs'
      · rw [List.mem_singleton.mp hs']; decide
      · obtain ⟨y, hy, rfl⟩ := List.mem_map.mp hs'
        have := hs y hy
        omega)
    have d3 : Drawn (sizes.map fun x => x + 1) (es.drop 1) := d2.drop
    rw [e4, mbk, mbk, cut1]
    refine ⟨_, rfl, by rw [d3.1, List.length_map], fun z hz => ?_⟩
    obtain ⟨s, hs', h4, h5⟩ := d3.mem hz
    obtain ⟨y, hy, rfl⟩ := List.mem_map.mp hs'
    have := hs y hy
    omega
  · rw [if_neg (by simp [h3])]
    by_cases h4 : f = 4
    · rw [if_pos (decide_eq_true h4)]
      obtain ⟨es, e4, d2⟩ := drawsK cell (sizes := [6, sizes.sum + 3]) (by show (2 : Nat) ≤ 100000; decide) (fun s hs' => by
        rcases List.mem_cons.mp hs' with rfl | hs'
        · decide
        · rw [List.mem_singleton.mp hs']; omega)
      obtain ⟨lv, e5, _, l1, l2⟩ := d2.at 1 rfl
      rw [e4, mbk, show ((1 : Nat) : Int) = 1 from rfl] at *
      rw [e5, mbk, mapCk (g := fun _ : Int => lv) (by omega), mbk]
      refine ⟨_, rfl, by rw [List.length_map], fun z hz => ?_⟩
      obtain ⟨y, hy, rfl⟩ := List.mem_map.mp hz
      omega
    · rw [if_neg (by simp [h4])]
      simp only [pow12, mbk]
      have hm : ∃ mo, ixM [3, (sizes.length : Int) + 2, sizes.sum + 3, 0, 0, 1000000000000 + 1] f = .ok mo ∧ 1 ≤ mo ∧ mo ≤ 100000000000000 ∧ mo ≤ B + 1 := by
        have : f = 0 ∨ f = 1 ∨ f = 2 ∨ f = 5 := by omega
        rcases this with rfl | rfl | rfl | rfl
        · exact ⟨3, rfl, by decide, by decide, by omega⟩
        · exact ⟨(sizes.length : Int) + 2, rfl, by omega, by omega, by omega⟩
        · exact ⟨sizes.sum + 3, rfl, by omega, by omega, by omega⟩
        · exact ⟨1000000000000 + 1, rfl, by decide, by decide, by omega⟩
      obtain ⟨mo, e3, s1, s2, s3⟩ := hm
      rw [e3]
      simp only [mbk]
      rw [rep1 (by omega) (by omega), mbk, catK (by simp; omega), mbk]
      obtain ⟨es, e4, d2⟩ := drawsK cell (sizes := [6] ++ List.replicate (sizes.length : Int).toNat mo) (by simp; omega) (fun s hs => by
        rcases List.mem_append.mp hs with hs | hs
        · rw [List.mem_singleton.mp hs]; decide
        · rw [(List.mem_replicate.mp hs).2]; omega)
      have d3 : Drawn (List.replicate (sizes.length : Int).toNat mo) (es.drop 1) := d2.drop
      rw [e4, mbk, mbk, cut1]
      refine ⟨_, rfl, by rw [d3.1, List.length_replicate]; omega, fun z hz => ?_⟩
      obtain ⟨s, hs, h3, h4⟩ := d3.mem hz
      rw [(List.mem_replicate.mp hs).2] at h4
      omega
theorem strengthsK (cell : Int) {sizes : List Int} (hl : sizes.length ≤ 90000) (hs : ∀ z ∈ sizes, 1 ≤ z ∧ z ≤ 1000000000) :
    ∃ ss, k__law_strengths cell sizes = .ok ss ∧ ss.length = sizes.length ∧ ∀ s ∈ ss, 0 ≤ s ∧ s ≤ 100000000000000 :=
  strengthsB cell hl hs (by decide) (by have := (le_sum hs).2; omega)
/-! ### the law's comparison of numbers -/
theorem isintK (a : Int) : k__law_is_integer a = .ok true := rfl
theorem isintOK (o : Option Int) : k__law_is_integer_v1 o = .ok o.isSome := by cases o <;> rfl
theorem find_none {xs ys : List Int} (h : xs.length = ys.length) : ((rng 0 (ys.length : Int)).find? fun k => !decide (xs[k.toNat]? = ys[k.toNat]?)) = none ↔ xs = ys := by
  rw [List.find?_eq_none]
  constructor
  · intro q
    apply List.ext_getElem?
    intro i
    by_cases hi : i < ys.length
    · have := q (i : Int) (mem_rng.mpr ⟨by omega, by omega⟩)
      simpa using this
    · rw [List.getElem?_eq_none (by omega), List.getElem?_eq_none (by omega)]
  · rintro rfl k _
    simp
theorem numLoop {δ : Type} {xs ys : List Int} (h : xs.length = ys.length) :
    (forM (fun (k317 : Int) (s316 : Unit) => mb (mb (mb (mb (ixM xs k317) fun v318 => k__law_is_integer v318) fun v319 => (.ok (!v319))) fun v322 => if v322 = true then .ok true else mb (ixM xs k317) fun v320 => mb (ixM ys k317) fun v321 => (.ok (!decide (v320 = v321)))) fun v323 => if v323 = true then .ok (.rt false)
    else .ok (.nx ())) (rng 0 (ys.length : Int)) () : M (Out Unit δ Bool)) = if xs = ys then .ok (.nx ()) else .ok (.rt false) := by
  rw [forM_ret (fun k => !decide (xs[k.toNat]? = ys[k.toNat]?)) (fun _ => false)]
  · by_cases e : xs = ys
    · rw [if_pos e, (find_none h).mpr e]
    · rw [if_neg e]
      cases q : ((rng 0 (ys.length : Int)).find? fun k => !decide (xs[k.toNat]? = ys[k.toNat]?)) with
      | none => exact absurd ((find_none h).mp q) e
      | some x => rfl
  · intro k hk
    obtain ⟨h1, h2⟩ := mem_rng.mp hk
    obtain ⟨x, ex, ex'⟩ := ixK (xs := xs) h1 (by omega)
    obtain ⟨y, ey, ey'⟩ := ixK (xs := ys) h1 h2
    rw [ex', ey', ex, ey]
    simp only [mbk, isintK]
    by_cases e : x = y
    · subst e; simp [mbk]
    · simp [mbk, e]
theorem numbersK {xs ys : List Int} (b : Bool) (hl : ys.length ≤ 90000) : k__law_numbers xs ys b = .ok (!b && decide (xs = ys)) := by
  unfold k__law_numbers kc__law_numbers
  cases b with
  | true => rfl
  | false =>
    rw [if_neg (by decide)]
    by_cases h : xs.length = ys.length
    · rw [if_neg (by simp [h]), rngK (by decide) (by decide) (by omega) (by omega), mbk, numLoop h]
      by_cases e : xs = ys
      · rw [if_pos e, sqk]; simp [e]
      · rw [if_neg e]; simp [e]
    · have : xs ≠ ys := fun e => h (by rw [e])
      have h' : ¬ ((xs.length : Int) = (ys.length : Int)) := by omega
      rw [if_pos (by simp [h'])]
      simp [this]
theorem numbersTK {xs ys : List Int} (b : Bool) (hl : ys.length ≤ 90000) : k__law_numbers_v1 xs ys b = .ok (b && decide (xs = ys)) := by
  unfold k__law_numbers_v1 kc__law_numbers_v1
  cases b with
  | false => rfl
  | true =>
    rw [if_neg (by decide)]
    by_cases h : xs.length = ys.length
    · rw [if_neg (by simp [h]), rngK (by decide) (by decide) (by omega) (by omega), mbk, numLoop h]
      by_cases e : xs = ys
      · rw [if_pos e, sqk]; simp [e]
      · rw [if_neg e]; simp [e]
    · have : xs ≠ ys := fun e => h (by rw [e])
      have h' : ¬ ((xs.length : Int) = (ys.length : Int)) := by omega
      rw [if_pos (by simp [h'])]
      simp [this]
theorem standingK {b : BV} {r : Bool} {zs ss : List Int} (h : zs.length ≤ 90000) (h2 : ss.length ≤ 90000) : k__law_is_standing b r zs ss = .ok (decide (b = ⟨ss, zs, r⟩)) := by
  unfold k__law_is_standing kc__law_is_standing
  rw [numbersTK true h, numbersTK true h2]
  obtain ⟨s, l, q⟩ := b
  simp only [mbk, BV.mk.injEq]
  by_cases h1 : q = r
  · subst h1
    by_cases h2 : l = zs
    · by_cases h3 : s = ss <;> simp [h2, h3]
    · simp [h2]
  · simp [h1]
/-! ### standings -/
def sAt (xs : List Int) (i : Int) : Int := xs.getD i.toNat 0
theorem ixS {xs : List Int} {i : Int} (h : 0 ≤ i) (h2 : i < xs.length) : ixM xs i = .ok (sAt xs i) := by
  obtain ⟨x, h3, h4⟩ := ixK h h2
  rw [h4]
  unfold sAt
  rw [List.getD_eq_getElem?_getD, h3]
  rfl
theorem sAt_mem {xs : List Int} {i : Int} (h : 0 ≤ i) (h2 : i < xs.length) : sAt xs i ∈ xs := by
  unfold sAt
  have hl : i.toNat < xs.length := by omega
  rw [List.getD_eq_getElem?_getD, List.getElem?_eq_getElem hl]
  exact List.getElem_mem hl
/-- a good standing -/
structure Good (b : BV) : Prop where
  ne : 0 < b.strengths.length
  len : b.lengths.length = b.strengths.length
  big : b.strengths.length ≤ 90000
  s0 : ∀ s ∈ b.strengths, 0 ≤ s
  l1 : ∀ z ∈ b.lengths, 1 ≤ z
theorem initK {ss zs : List Int} {r : Bool} (g : Good ⟨ss, zs, r⟩) : k_Beads___init__ ss zs r = .ok ⟨ss, zs, r⟩ := by
  obtain ⟨h1, h2, h3, h4, h5⟩ := g
  simp only at h1 h2 h3 h4 h5
  unfold k_Beads___init__ kc_Beads___init__
  simp only
  have e1 : ¬ ss = [] := fun e => by rw [e] at h1; exact absurd h1 (by decide)
  have e2 : (zs.length : Int) = (ss.length : Int) := by omega
  rw [if_neg (by simp [e1, e2]), rngK (by decide) (by decide) (by omega) (by omega), mbk, forM_pass, sqk]
  · rfl
  · intro k hk
    obtain ⟨q1, q2⟩ := mem_rng.mp hk
    have a1 := h4 _ (sAt_mem q1 q2)
    have a2 := h5 _ (sAt_mem (xs := zs) q1 (by omega))
    rw [ixS q1 q2, ixS q1 (by omega)]
    simp only [mbk]
    rw [if_neg (by simp; omega)]
    simp only [mbk]
    rw [if_neg (by simp; omega)]
theorem lenK {b : BV} (h : b.strengths.length ≤ 90000) : mb (k_Beads___len__ b) lenO = .ok (b.strengths.length : Int) := by
  show mb (.ok (b.strengths.length : Int)) lenO = _
  rw [mbk]
  unfold lenO
  rw [if_pos ⟨by omega, by omega⟩]
theorem checkK {p n : Int} (h : 0 ≤ p) (h2 : p < n) : k_check_place p n = .ok () := by
  unfold k_check_place kc_check_place
  rw [if_neg (by simp; omega)]; rfl
theorem checkE {p n : Int} (h : p < 0 ∨ n ≤ p) : k_check_place p n = .er ⟨"BadPlace", [("place", eI p)]⟩ := by
  unfold k_check_place kc_check_place
  rw [if_pos (by simp; omega)]; rfl
/-- the places from p on, in their order -/
def runsV (ring : Bool) (n p : Int) : List Int := rng (p + 1) n ++ if ring = true then rng 0 p else []
theorem runs_mem {ring : Bool} {n p x : Int} (h0 : 0 ≤ p) (h1 : p < n) (h : x ∈ runsV ring n p) : 0 ≤ x ∧ x < n := by
  unfold runsV at h
  rcases List.mem_append.mp h with h | h
  · have := mem_rng.mp h; omega
  · split at h
    · have := mem_rng.mp h; omega
    · cases h
theorem runs_len {ring : Bool} {n p : Int} (h0 : 0 ≤ p) (h1 : p < n) : (runsV ring n p).length ≤ n.toNat := by
  unfold runsV
  rw [List.length_append, rng_len]
  split
  · rw [rng_len]; omega
  · rw [List.length_nil]; omega
theorem runK {b : BV} {p : Int} (h : b.strengths.length ≤ 90000) (h1 : 0 ≤ p) (h2 : p < b.strengths.length) : k_run_of b p = .ok (runsV b.ring b.strengths.length p) := by
  unfold k_run_of kc_run_of
  rw [lenK h, mbk, rngLK (by omega) (by omega) (by omega) (by omega), mbk, rngLK (by omega) (by omega) (by omega) (by omega), mbk]
  unfold runsV
  cases b.ring with
  | true =>
    rw [if_pos rfl, catK (by rw [rng_len, rng_len]; omega)]
    simp only [mbk, sqk]
    rfl
  | false =>
    simp only [Bool.false_eq_true, if_false, sqk, List.append_nil]
    rfl
def trainV (ring : Bool) (ss : List Int) (p : Int) : List Int := (runsV ring ss.length p).takeWhile fun x => !decide (sAt ss p ≤ sAt ss x)
def stopV (ring : Bool) (ss : List Int) (p : Int) : Option Int := (runsV ring ss.length p).find? fun x => decide (sAt ss p ≤ sAt ss x)
theorem train_mem {ring : Bool} {ss : List Int} {p x : Int} (h0 : 0 ≤ p) (h1 : p < ss.length) (h : x ∈ trainV ring ss p) : 0 ≤ x ∧ x < ss.length := runs_mem h0 h1 (List.takeWhile_subset _ h)
theorem train_len {ring : Bool} {ss : List Int} {p : Int} (h0 : 0 ≤ p) (h1 : p < ss.length) : (trainV ring ss p).length ≤ ss.length := by
  have := runs_len (ring := ring) h0 h1
  have := tw_len (fun x => !decide (sAt ss p ≤ sAt ss x)) (runsV ring ss.length p)
  unfold trainV
  omega
theorem trainLoop {δ ρ : Type} {ss xs : List Int} {p : Int} (hp : 0 ≤ p ∧ p < ss.length) (h : ∀ x ∈ xs, 0 ≤ x ∧ x < ss.length) (hl : xs.length ≤ 900000) :
    (forM (fun (at4 : Int) (s5 : List Int) => mb (mb (ixM ss at4) fun v6 => mb (ixM ss p) fun v7 => (.ok (decide (v7 ≤ v6)))) fun v8 => if v8 = true then .ok (.bk s5) else mb (app s5 at4) fun train9 => .ok (.nx train9)) xs [] : M (Out (List Int) δ ρ)) =
      .ok (.nx (xs.takeWhile fun x => !decide (sAt ss p ≤ sAt ss x))) := by
  simp only [ixS hp.1 hp.2, mbk]
  have key : ∀ (ys acc : List Int), (∀ x ∈ ys, 0 ≤ x ∧ x < ss.length) → acc.length + ys.length ≤ 900000 → (forM (fun (at4 : Int) (s5 : List Int) => mb (mb (ixM ss at4) fun v6 => .ok (decide (sAt ss p ≤ v6))) fun v8 => if v8 = true then .ok (.bk s5) else mb (app s5 at4) fun train9 => .ok (.nx train9)) ys acc : M (Out (List Int) δ ρ)) =
      .ok (.nx (acc ++ ys.takeWhile fun x => !decide (sAt ss p ≤ sAt ss x))) := by
    intro ys
    induction ys with
    | nil => intro acc _ _; simp
    | cons y ys ih =>
      intro acc hy hlen
      unfold forM
      have h1 := hy y List.mem_cons_self
      rw [List.length_cons] at hlen
      rw [ixS h1.1 h1.2]
      simp only [mbk]
      by_cases c : sAt ss p ≤ sAt ss y
      · rw [if_pos (decide_eq_true c)]
        simp [c]
      · rw [if_neg (by simp [c]), appK (by omega)]
        simp only [mbk]
        rw [ih _ (fun x hx => hy x (List.mem_cons_of_mem _ hx)) (by rw [List.length_append, List.length_singleton]; omega)]
        simp [c]
  have := key xs [] h (by simpa using hl)
  simpa using this
theorem trainK {b : BV} {p : Int} (h : b.strengths.length ≤ 90000) (h1 : 0 ≤ p) (h2 : p < b.strengths.length) : k_train_of b p = .ok (trainV b.ring b.strengths p) := by
  unfold k_train_of kc_train_of
  have rl := runs_len (ring := b.ring) h1 h2
  rw [lenK h, mbk, checkK h1 h2, mbk, runK h h1 h2, mbk, trainLoop ⟨h1, h2⟩ (fun x hx => runs_mem h1 h2 hx) (by omega), sqk]
  rfl
theorem trainE {b : BV} {p : Int} (h : b.strengths.length ≤ 90000) (h1 : p < 0 ∨ (b.strengths.length : Int) ≤ p) : k_train_of b p = .er ⟨"BadPlace", [("place", eI p)]⟩ := by
  unfold k_train_of kc_train_of
  rw [lenK h, mbk, checkE h1]
  rfl
def reachV (b : BV) (p : Int) : Int := sAt b.lengths p + ((trainV b.ring b.strengths p).map (sAt b.lengths)).sum
theorem reachK {b : BV} {p : Int} (g : Good b) (h1 : 0 ≤ p) (h2 : p < b.strengths.length) : k_reach_of b p = .ok (reachV b p) := by
  unfold k_reach_of kc_reach_of
  have hl := train_len (ring := b.ring) h1 h2
  have := g.big
  have := g.len
  rw [trainK g.big h1 h2, mbk, ixS h1 (by omega), mbk, mapC_ok (g := sAt b.lengths) (lineK (by omega)) fun x hx => by
    have := train_mem h1 h2 hx
    exact ixS this.1 (by omega)]
  simp only [mbk]
  rfl
theorem reachE {b : BV} {p : Int} (h : b.strengths.length ≤ 90000) (h1 : p < 0 ∨ (b.strengths.length : Int) ≤ p) : k_reach_of b p = .er ⟨"BadPlace", [("place", eI p)]⟩ := by
  unfold k_reach_of kc_reach_of
  rw [trainE h h1]
  rfl
theorem stopK {b : BV} {p : Int} (h : b.strengths.length ≤ 90000) (h1 : 0 ≤ p) (h2 : p < b.strengths.length) : k_stopper_of b p = .ok (stopV b.ring b.strengths p) := by
  unfold k_stopper_of kc_stopper_of
  rw [lenK h, mbk, checkK h1 h2, mbk, runK h h1 h2, mbk, forM_ret (fun x => decide (sAt b.strengths p ≤ sAt b.strengths x)) some]
  · unfold stopV
    cases (runsV b.ring b.strengths.length p).find? fun x => decide (sAt b.strengths p ≤ sAt b.strengths x) with
    | none => rfl
    | some x => rfl
  · intro x hx
    have := runs_mem h1 h2 hx
    rw [ixS this.1 this.2, ixS h1 h2]
    simp only [mbk]
theorem stopE {b : BV} {p : Int} (h : b.strengths.length ≤ 90000) (h1 : p < 0 ∨ (b.strengths.length : Int) ≤ p) : k_stopper_of b p = .er ⟨"BadPlace", [("place", eI p)]⟩ := by
  unfold k_stopper_of kc_stopper_of
  rw [lenK h, mbk, checkE h1]
  rfl
theorem reachesK {b : BV} (g : Good b) : k_reaches b = .ok ((rng 0 b.strengths.length).map (reachV b)) := by
  unfold k_reaches kc_reaches
  have := g.big
  rw [lenK g.big, mbk, rngK (by decide) (by decide) (by omega) (by omega), mbk, mapC_ok (g := reachV b) (lineK (by rw [rng_len]; omega)) fun x hx => reachK g (mem_rng.mp hx).1 (mem_rng.mp hx).2, mbk]
  rfl
/-! ### steps around a ring, along a row -/
section
variable {α β γ δ ρ : Type}
theorem forM_map {f : α → β} {b : β → γ → M (Out γ γ ρ)} : ∀ {xs : List α} {s0 : γ}, (forM (fun x s => b (f x) s) xs s0 : M (Out γ δ ρ)) = forM b (xs.map f) s0
  | [], _ => rfl
  | x :: xs, s0 => by
    rw [List.map_cons]
    unfold forM
    have ih : ∀ s, (forM (fun x s => b (f x) s) xs s : M (Out γ δ ρ)) = forM b (xs.map f) s := fun s => forM_map
    cases b (f x) s0 with
    | ok o => cases o <;> simp [ih]
    | er e => rfl
    | no => rfl
/-- what stands behind only leaves -/
theorem forM_appB {f : α → γ → M (Out γ γ ρ)} {ys : List α} (h : ∀ y ∈ ys, ∀ s, f y s = .ok (.bk s)) : ∀ {xs : List α} {s0 : γ}, (forM f (xs ++ ys) s0 : M (Out γ δ ρ)) = forM f xs s0
  | [], s0 => by
    cases ys with
    | nil => rfl
    | cons y ys =>
      rw [List.nil_append]
      unfold forM
      rw [h y List.mem_cons_self]
  | x :: xs, s0 => by
    rw [List.cons_append]
    unfold forM
    have ih : ∀ s, (forM f (xs ++ ys) s : M (Out γ δ ρ)) = forM f xs s := fun s => forM_appB h
    cases f x s0 with
    | ok o => cases o <;> simp [ih]
    | er e => rfl
    | no => rfl
theorem map_at {n p : Int} (h0 : 0 ≤ p) (h1 : p < n) : (rng 1 n).map (fun x => if n ≤ p + x then p + x - n else p + x) = rng (p + 1) n ++ rng 0 p := by
  rw [rng_app (lo := 1) (mid := n - p) (hi := n) (by omega) (by omega), List.map_append]
  congr 1
  · rw [show rng (p + 1) n = rng (1 + p) (n - p + p) by congr 1 <;> omega, ← rng_map]
    apply List.map_congr_left
    intro x hx
    have := mem_rng.mp hx
    rw [if_neg (by omega)]
    omega
  · rw [show rng 0 p = rng (n - p + (p - n)) (n + (p - n)) by congr 1 <;> omega, ← rng_map]
    apply List.map_congr_left
    intro x hx
    have := mem_rng.mp hx
    rw [if_pos (by omega)]
    omega
theorem stepsK {ring : Bool} {n p : Int} (b : Int → γ → M (Out γ γ ρ)) (s0 : γ) (h0 : 0 ≤ p) (h1 : p < n) :
    (forM (fun (x : Int) (s : γ) => sq (if (decide (n ≤ (p + x))) = true then if (!ring) = true then .ok (.bk s) else .ok (.nx ((p + x) - n)) else .ok (.nx (p + x))) fun (j : Int) => b j s) (rng 1 n) s0 : M (Out γ δ ρ)) = forM b (runsV ring n p) s0 := by
  unfold runsV
  cases ring with
  | true =>
    rw [if_pos rfl, ← map_at h0 h1, ← forM_map]
    apply forM_congr
    intro x hx s
    by_cases q : n ≤ p + x
    · rw [if_pos (decide_eq_true q), if_neg (by decide), sqk, if_pos q]
    · rw [if_neg (by simp [q]), sqk, if_neg q]
  | false =>
    rw [if_neg (by decide), List.append_nil, rng_app (lo := 1) (mid := n - p) (hi := n) (by omega) (by omega), forM_appB]
    · rw [show rng (p + 1) n = rng (1 + p) (n - p + p) by congr 1 <;> omega, ← rng_map, ← forM_map]
      apply forM_congr
      intro x hx s
      have := mem_rng.mp hx
      rw [if_neg (by simp; omega), sqk]
      congr 1
      omega
    · intro x hx s
      have := mem_rng.mp hx
      rw [if_pos (by simp; omega), if_pos (by decide)]
      rfl
theorem foldl_sum {g : Int → Int} : ∀ (xs : List Int) (a : Int), xs.foldl (fun s x => s + g x) a = a + (xs.map g).sum
  | [], a => by simp
  | x :: xs, a => by
    rw [List.foldl_cons, foldl_sum xs, List.map_cons, List.sum_cons]
    omega
/-- taken up to the first that c tells, which is returned as well -/
theorem walkLoop {ss : List Int} {p : Int} (hp : 0 ≤ p ∧ p < ss.length) : ∀ (xs acc : List Int), (∀ x ∈ xs, 0 ≤ x ∧ x < ss.length) → acc.length + xs.length ≤ 900000 →
    (forM (fun (j : Int) (s : List Int) => mb (mb (ixM ss j) fun v1 => mb (ixM ss p) fun v2 => (.ok (decide (v2 ≤ v1)))) fun v3 => if v3 = true then .ok (.rt (s, some j)) else mb (app s j) fun t => .ok (.nx t)) xs acc : M (Out (List Int) δ (List Int × Option Int))) =
      match xs.find? fun x => decide (sAt ss p ≤ sAt ss x) with
      | some x => .ok (.rt (acc ++ xs.takeWhile (fun x => !decide (sAt ss p ≤ sAt ss x)), some x))
      | none => .ok (.nx (acc ++ xs.takeWhile fun x => !decide (sAt ss p ≤ sAt ss x)))
  | [], acc, _, _ => by simp
  | y :: ys, acc, hy, hlen => by
    unfold forM
    have h1 := hy y List.mem_cons_self
    rw [List.length_cons] at hlen
    rw [ixS h1.1 h1.2, ixS hp.1 hp.2]
    simp only [mbk]
    by_cases c : sAt ss p ≤ sAt ss y
    · rw [if_pos (decide_eq_true c)]
      simp [c]
    · rw [if_neg (by simp [c]), appK (by omega)]
      simp only [mbk]
      have ih := walkLoop hp ys (acc ++ [y]) (fun x hx => hy x (List.mem_cons_of_mem _ hx)) (by rw [List.length_append, List.length_singleton]; omega)
      simp only [ixS hp.1 hp.2, mbk] at ih
      rw [ih]
      simp [c]
end
end DL

namespace DL
open PySem L2
/-! ## wakings -/
def kc__law_reach (round_flag : Bool) (sizes : (List Int)) (strengths : (List Int)) (place : Int) : M (Out Unit Empty Int) := mb (ixM sizes place) fun total1 =>
    mb (rngM 1 (sizes.length : Int)) fun v2 => sq (forM (fun (step3 : Int) (s4 : Int) =>
    sq (if (decide ((sizes.length : Int) ≤ (place + step3))) = true then if (!round_flag) = true then .ok (.bk s4)
    else .ok (.nx ((place + step3) - (sizes.length : Int))) else .ok (.nx (place + step3))) fun (j5 : Int) =>
    mb (mb (ixM strengths j5) fun v6 => mb (ixM strengths place) fun v7 => (.ok (decide (v7 ≤ v6)))) fun v8 => if v8 = true then .ok (.bk s4)
    else mb (mb (ixM sizes j5) fun v9 => (.ok (s4 + v9))) fun total10 =>
    .ok (.nx total10)) v2 total1) fun s11 =>
    .ok (.rt s11)
def k__law_reach (round_flag : Bool) (sizes : (List Int)) (strengths : (List Int)) (place : Int) : M Int := fnV .no (kc__law_reach round_flag sizes strengths place)
def kc__law_woken (round_flag : Bool) (sizes : (List Int)) (strengths : (List Int)) (places : (List Int)) : M (Out Unit Empty (List Int)) := sq (forM (fun (place1 : Int) (s2 : List Int) =>
    mb (k__law_reach round_flag sizes strengths place1) fun v3 => mb (setM s2 place1 v3) fun after4 =>
    .ok (.nx after4)) places strengths) fun s5 =>
    .ok (.rt s5)
def k__law_woken (round_flag : Bool) (sizes : (List Int)) (strengths : (List Int)) (places : (List Int)) : M (List Int) := fnV .no (kc__law_woken round_flag sizes strengths places)
def kc__law_settled (round_flag : Bool) (sizes : (List Int)) (strengths : (List Int)) : M (Out Unit Empty (List Int)) := mb (rngM 0 80) fun v1 => sq (forM (fun (step2 : Int) (s3 : (List Int)) =>
    mb (mb (rngL 0 (s3.length : Int)) fun v4 => k__law_woken round_flag sizes s3 v4) fun after5 =>
    if (decide (after5 = s3)) = true then .ok (.bk s3)
    else .ok (.nx after5)) v1 strengths) fun s6 =>
    .ok (.rt s6)
def k__law_settled (round_flag : Bool) (sizes : (List Int)) (strengths : (List Int)) : M (List Int) := fnV .no (kc__law_settled round_flag sizes strengths)
def kc__law_handed (places : (List Int)) (as_tuple : Bool) : M (Out Unit Empty (Bool × List Int)) := if as_tuple = true then .ok (.rt (true, places))
    else .ok (.rt (false, places))
def k__law_handed (places : (List Int)) (as_tuple : Bool) : M (Bool × List Int) := fnV .no (kc__law_handed places as_tuple)
def kc_distinct (handful : (Bool × List Int)) (size : Int) : M (Out Unit Empty (List Int)) := sq (forM (fun (place1 : Int) (s2 : Unit) =>
    mb (k_check_place place1 size) fun v3 => .ok (.nx ())) handful.2 ()) fun s4 =>
    mb (sortSet handful.2) fun v5 => .ok (.rt v5)
def k_distinct (handful : (Bool × List Int)) (size : Int) : M (List Int) := fnV .no (kc_distinct handful size)
def kc_changes_of (beads : BV) (handful : (Bool × List Int)) : M (Out Unit Empty (List (Int × Int × Int))) := mb (mb (mb (k_Beads___len__ beads) lenO) fun v1 => k_distinct handful v1) fun v2 => sq (forM (fun (place3 : Int) (s4 : List (Int × Int × Int)) =>
    mb (ixM beads.strengths place3) fun before5 =>
    mb (k_reach_of beads place3) fun after6 =>
    if (!decide (after6 = before5)) = true then mb (app s4 (place3, before5, after6)) fun changes7 =>
    .ok (.nx changes7)
    else .ok (.nx s4)) v2 ([] : List (Int × Int × Int))) fun s8 =>
    .ok (.rt s8)
def k_changes_of (beads : BV) (handful : (Bool × List Int)) : M (List (Int × Int × Int)) := fnV .no (kc_changes_of beads handful)
def kc_replaced (beads : BV) (changes : (List (Int × Int × Int))) : M (Out Unit Empty BV) := sq (forM (fun (x1 : (Int × Int × Int)) (s2 : List Int) =>
    mb (setM s2 x1.1 x1.2.2) fun strengths3 =>
    .ok (.nx strengths3)) changes beads.strengths) fun s4 =>
    mb (k_Beads___init__ s4 beads.lengths beads.ring) fun v5 => .ok (.rt v5)
def k_replaced (beads : BV) (changes : (List (Int × Int × Int))) : M BV := fnV .no (kc_replaced beads changes)
def kc_wake (beads : BV) (handful : (Bool × List Int)) : M (Out Unit Empty BV) := mb (mb (k_changes_of beads handful) fun v1 => k_replaced beads v1) fun v2 => .ok (.rt v2)
def k_wake (beads : BV) (handful : (Bool × List Int)) : M BV := fnV .no (kc_wake beads handful)
def kc__law_numbersQ (actual : (Bool × List Int)) (due : (List Int)) (as_tuple : Bool) : M (Out Unit Empty Bool) := if ((as_tuple && (!actual.1)) || ((!as_tuple) && (!(!actual.1)))) = true then .ok (.rt false)
    else if (!decide ((actual.2.length : Int) = (due.length : Int))) = true then .ok (.rt false)
    else mb (rngM 0 (due.length : Int)) fun v1 => sq (forM (fun (k2 : Int) (s3 : Unit) =>
    mb (mb (mb (mb (ixM actual.2 k2) fun v4 => k__law_is_integer v4) fun v5 => (.ok (!v5))) fun v6 => if v6 = true then .ok true else mb (ixM actual.2 k2) fun v7 => mb (ixM due k2) fun v8 => (.ok (!decide (v7 = v8)))) fun v9 => if v9 = true then .ok (.rt false)
    else .ok (.nx ())) v1 ()) fun s10 =>
    .ok (.rt true)
def k__law_numbersQ (actual : (Bool × List Int)) (due : (List Int)) (as_tuple : Bool) : M Bool := fnV .no (kc__law_numbersQ actual due as_tuple)
def kc__law_is_changes (actual : (List (Int × Int × Int))) (due : (List (Int × Int × Int))) : M (Out Unit Empty Bool) := if ((!true) || (!decide ((actual.length : Int) = (due.length : Int)))) = true then .ok (.rt false)
    else mb (rngM 0 (due.length : Int)) fun v1 => sq (forM (fun (k2 : Int) (s3 : Unit) =>
    mb (mb (mb (mb (ixM actual k2) fun v4 => (.ok [v4.1, v4.2.1, v4.2.2])) fun v5 => mb (mb (ixM due k2) fun v6 => (.ok [v6.1, v6.2.1, v6.2.2])) fun v7 => k__law_numbers_v1 v5 v7 true) fun v8 => (.ok (!v8))) fun v9 => if v9 = true then .ok (.rt false)
    else .ok (.nx ())) v1 ()) fun s10 =>
    .ok (.rt true)
def k__law_is_changes (actual : (List (Int × Int × Int))) (due : (List (Int × Int × Int))) : M Bool := fnV .no (kc__law_is_changes actual due)
def kc_wake_all (beads : BV) : M (Out Unit Empty BV) := mb (mb (k_reaches beads) fun v1 => k_Beads___init__ v1 beads.lengths beads.ring) fun v2 => .ok (.rt v2)
def k_wake_all (beads : BV) : M BV := fnV .no (kc_wake_all beads)
def kc__law_restless (round_flag : Bool) (sizes : (List Int)) (strengths : (List Int)) : M (Out Unit Empty (List Int)) := mb (mb (rngM 0 (sizes.length : Int)) fun v1 => lcM (fun k2 => mb (k__law_reach round_flag sizes strengths k2) fun v3 => mb (ixM strengths k2) fun v4 => (.ok (!decide (v3 = v4)))) (fun k2 => (.ok k2)) v1) fun v5 => .ok (.rt v5)
def k__law_restless (round_flag : Bool) (sizes : (List Int)) (strengths : (List Int)) : M (List Int) := fnV .no (kc__law_restless round_flag sizes strengths)
def kc_restless (beads : BV) : M (Out Unit Empty (List Int)) := mb (k_reaches beads) fun after1 =>
    mb (mb (mb (mb (k_Beads___len__ beads) lenO) fun v2 => rngM 0 v2) fun v3 => lcM (fun place4 => mb (ixM after1 place4) fun v5 => mb (ixM beads.strengths place4) fun v6 => (.ok (!decide (v5 = v6)))) (fun place4 => (.ok place4)) v3) fun v7 => .ok (.rt v7)
def k_restless (beads : BV) : M (List Int) := fnV .no (kc_restless beads)
def kc_hungry (beads : BV) : M (Out Unit Empty (List Int)) := mb (k_reaches beads) fun after1 =>
    mb (mb (mb (mb (k_Beads___len__ beads) lenO) fun v2 => rngM 0 v2) fun v3 => lcM (fun place4 => mb (ixM after1 place4) fun v5 => mb (ixM beads.strengths place4) fun v6 => (.ok (decide (v6 < v5)))) (fun place4 => (.ok place4)) v3) fun v7 => .ok (.rt v7)
def k_hungry (beads : BV) : M (List Int) := fnV .no (kc_hungry beads)
def kc_at_rest (beads : BV) : M (Out Unit Empty Bool) := mb (mb (mb (k_restless beads) fun v1 => (.ok (v1.length : Int))) fun v2 => (.ok (decide (v2 = 0)))) fun v3 => .ok (.rt v3)
def k_at_rest (beads : BV) : M Bool := fnV .no (kc_at_rest beads)

theorem lawReachK {r : Bool} {zs ss : List Int} {p : Int} (hl : zs.length = ss.length) (hb : ss.length ≤ 90000) (h1 : 0 ≤ p) (h2 : p < ss.length) : k__law_reach r zs ss p = .ok (reachV ⟨ss, zs, r⟩ p) := by
  unfold k__law_reach kc__law_reach
  rw [ixS h1 (by omega), mbk, rngK (by decide) (by decide) (by omega) (by omega), mbk, show (zs.length : Int) = (ss.length : Int) by omega]
  rw [stepsK (fun (j : Int) (s : Int) => mb (mb (ixM ss j) fun v224 => mb (ixM ss p) fun v225 => (.ok (decide (v225 ≤ v224)))) fun v228 => if v228 = true then .ok (.bk s) else mb (mb (ixM zs j) fun v226 => (.ok (s + v226))) fun total227 => .ok (.nx total227)) _ h1 h2]
  rw [forM_brk (fun x => decide (sAt ss p ≤ sAt ss x)) (fun x s => s + sAt zs x)]
  · rw [sqk, foldl_sum]
    rfl
  · intro x hx s
    have := runs_mem h1 h2 hx
    rw [ixS this.1 this.2, ixS h1 h2, ixS this.1 (by omega)]
    simp only [mbk]
theorem sum_nn : ∀ {xs : List Int}, (∀ x ∈ xs, 0 ≤ x) → 0 ≤ xs.sum
  | [], _ => Int.le_refl 0
  | x :: xs, h => by
    rw [List.sum_cons]
    have := h x List.mem_cons_self
    have := sum_nn (xs := xs) fun y hy => h y (List.mem_cons_of_mem _ hy)
    omega
theorem reach_pos {b : BV} {p : Int} (g : Good b) (h1 : 0 ≤ p) (h2 : p < b.strengths.length) : 1 ≤ reachV b p := by
  have hz := g.len
  have a := g.l1 _ (sAt_mem (xs := b.lengths) h1 (by omega))
  have : 0 ≤ ((trainV b.ring b.strengths p).map (sAt b.lengths)).sum := sum_nn fun x hx => by
    obtain ⟨q, hq, rfl⟩ := List.mem_map.mp hx
    have t := train_mem h1 h2 hq
    have := g.l1 _ (sAt_mem (xs := b.lengths) t.1 (by omega))
    omega
  unfold reachV
  omega
/-! ### the strengths after the places qs have woken -/
def wkV (b : BV) (qs : List Int) : List Int := (rng 0 b.strengths.length).map fun k => if k ∈ qs then reachV b k else sAt b.strengths k
theorem wkV_len (b : BV) (qs : List Int) : (wkV b qs).length = b.strengths.length := by unfold wkV; rw [List.length_map, rng_len]; omega
theorem wkV_at {b : BV} {qs : List Int} {k : Int} (h1 : 0 ≤ k) (h2 : k < b.strengths.length) : sAt (wkV b qs) k = if k ∈ qs then reachV b k else sAt b.strengths k := by
  unfold sAt wkV
  rw [List.getD_eq_getElem?_getD, List.getElem?_map, rng_get (by omega)]
  simp only [Option.map_some, Option.getD_some]
  rw [show (0 : Int) + (k.toNat : Int) = k by omega]
  rfl
theorem sAt_ext {xs ys : List Int} (hl : xs.length = ys.length) (h : ∀ k : Int, 0 ≤ k → k < xs.length → sAt xs k = sAt ys k) : xs = ys := by
  apply List.ext_getElem hl
  intro i h1 h2
  have := h (i : Int) (by omega) (by omega)
  unfold sAt at this
  rw [List.getD_eq_getElem?_getD, List.getD_eq_getElem?_getD, Int.toNat_natCast, List.getElem?_eq_getElem h1, List.getElem?_eq_getElem h2] at this
  exact this
theorem wkV_nil (b : BV) : wkV b [] = b.strengths := sAt_ext (wkV_len b []) fun k h1 h2 => by
  rw [wkV_len] at h2
  rw [wkV_at h1 h2, if_neg (by simp)]
theorem wkV_congr {b : BV} {ps qs : List Int} (h : ∀ k : Int, 0 ≤ k → k < b.strengths.length → (k ∈ ps ↔ k ∈ qs)) : wkV b ps = wkV b qs := by
  refine sAt_ext (by rw [wkV_len, wkV_len]) fun k h1 h2 => ?_
  rw [wkV_len] at h2
  rw [wkV_at h1 h2, wkV_at h1 h2]
  by_cases q : k ∈ ps
  · rw [if_pos q, if_pos ((h k h1 h2).mp q)]
  · rw [if_neg q, if_neg fun z => q ((h k h1 h2).mpr z)]
theorem setK {xs : List Int} {i x : Int} (h1 : 0 ≤ i) (h2 : i < xs.length) : setM xs i x = .ok (xs.set i.toNat x) := by
  obtain ⟨n, rfl⟩ := Int.eq_ofNat_of_zero_le h1
  have e : ixN xs.length (n : Int) = some n := by
    unfold ixN
    rw [if_pos h1, if_pos h2]
    rfl
  unfold setM
  rw [e]
  rfl
theorem sAt_set {xs : List Int} {i k x : Int} (h1 : 0 ≤ i) (h2 : i < xs.length) (h3 : 0 ≤ k) : sAt (xs.set i.toNat x) k = if k = i then x else sAt xs k := by
  unfold sAt
  rw [List.getD_eq_getElem?_getD, List.getD_eq_getElem?_getD]
  by_cases q : k = i
  · subst q
    rw [if_pos rfl, List.getElem?_set_self (by omega)]
    rfl
  · rw [if_neg q, List.getElem?_set_ne (by omega)]
theorem wkV_set {b : BV} {qs : List Int} {p : Int} (h1 : 0 ≤ p) (h2 : p < b.strengths.length) : (wkV b qs).set p.toNat (reachV b p) = wkV b (p :: qs) := by
  refine sAt_ext (by rw [List.length_set, wkV_len, wkV_len]) fun k h3 h4 => ?_
  rw [List.length_set, wkV_len] at h4
  rw [sAt_set h1 (by rw [wkV_len]; exact h2) h3, wkV_at h3 h4, wkV_at h3 h4]
  by_cases q : k = p
  · subst q
    rw [if_pos rfl, if_pos List.mem_cons_self]
  · rw [if_neg q]
    simp [q]
theorem wkV_same {b : BV} {qs : List Int} {p : Int} (h1 : 0 ≤ p) (h2 : p < b.strengths.length) (h : reachV b p = sAt b.strengths p) : wkV b (p :: qs) = wkV b qs := by
  refine sAt_ext (by rw [wkV_len, wkV_len]) fun k h3 h4 => ?_
  rw [wkV_len] at h4
  rw [wkV_at h3 h4, wkV_at h3 h4]
  by_cases q : k = p
  · subst q
    rw [if_pos List.mem_cons_self, h]
    simp
  · simp [q]
theorem wkV_nn {b : BV} {qs : List Int} (g : Good b) : ∀ s ∈ wkV b qs, 0 ≤ s := fun s hs => by
  unfold wkV at hs
  obtain ⟨k, hk, rfl⟩ := List.mem_map.mp hs
  have := mem_rng.mp hk
  split
  · have := reach_pos g this.1 this.2
    omega
  · exact g.s0 _ (sAt_mem this.1 this.2)
theorem good_wk {b : BV} {qs : List Int} (g : Good b) : Good ⟨wkV b qs, b.lengths, b.ring⟩ :=
  ⟨by show 0 < (wkV b qs).length; rw [wkV_len]; exact g.ne, by show b.lengths.length = (wkV b qs).length; rw [wkV_len]; exact g.len, by show (wkV b qs).length ≤ 90000; rw [wkV_len]; exact g.big, wkV_nn g, g.l1⟩
/-- the loop of wakings -/
theorem wkLoop {δ ρ : Type} {r : Bool} {zs ss : List Int} (g : Good ⟨ss, zs, r⟩) : ∀ (ps qs : List Int), (∀ p ∈ ps, 0 ≤ p ∧ p < ss.length) →
    (forM (fun (p : Int) (s : List Int) => mb (k__law_reach r zs ss p) fun v => mb (setM s p v) fun a => .ok (.nx a)) ps (wkV ⟨ss, zs, r⟩ qs) : M (Out (List Int) δ ρ)) = .ok (.nx (wkV ⟨ss, zs, r⟩ (ps.reverse ++ qs)))
  | [], qs, _ => rfl
  | p :: ps, qs, h => by
    unfold forM
    have hp := h p List.mem_cons_self
    have hz : zs.length = ss.length := g.len
    have hb : ss.length ≤ 90000 := g.big
    rw [lawReachK hz hb hp.1 hp.2, mbk, setK hp.1 (by rw [wkV_len]; exact hp.2), mbk]
    simp only
    rw [wkV_set (b := ⟨ss, zs, r⟩) hp.1 hp.2, wkLoop g ps (p :: qs) fun x hx => h x (List.mem_cons_of_mem _ hx)]
    rw [List.reverse_cons, List.append_assoc]
    rfl
theorem wokenK {r : Bool} {zs ss ps : List Int} (g : Good ⟨ss, zs, r⟩) (h : ∀ p ∈ ps, 0 ≤ p ∧ p < ss.length) : k__law_woken r zs ss ps = .ok (wkV ⟨ss, zs, r⟩ ps) := by
  unfold k__law_woken kc__law_woken
  have := wkLoop (δ := Empty) (ρ := List Int) g ps [] h
  rw [wkV_nil] at this
  rw [this, sqk, wkV_congr (qs := ps) fun k _ _ => by simp]
  rfl
/-! ### the first that is refused -/
theorem forM_er {α γ δ ρ : Type} {f : α → γ → M (Out γ γ ρ)} (c : α → Bool) (e : α → Ex) : ∀ {xs : List α} {s0 : γ}, (∀ x ∈ xs, f x s0 = if c x then .er (e x) else .ok (.nx s0)) →
    (forM f xs s0 : M (Out γ δ ρ)) = match xs.find? c with
      | some x => .er (e x)
      | none => .ok (.nx s0)
  | [], _, _ => rfl
  | x :: xs, s0, h => by
    unfold forM
    rw [h x List.mem_cons_self]
    cases hc : c x with
    | true => simp [hc]
    | false =>
      simp only [Bool.false_eq_true, if_false, List.find?, hc]
      exact forM_er c e fun y hy => h y (List.mem_cons_of_mem _ hy)
def badP (n : Int) (x : Int) : Bool := decide (x < 0) || decide (n ≤ x)
theorem checkL {δ ρ : Type} {n : Int} {ps : List Int} : (forM (fun (p : Int) (s : Unit) => mb (k_check_place p n) fun v => .ok (.nx ())) ps () : M (Out Unit δ ρ)) = match ps.find? (badP n) with
    | some x => .er ⟨"BadPlace", [("place", eI x)]⟩
    | none => .ok (.nx ()) := by
  have := forM_er (γ := Unit) (δ := δ) (ρ := ρ) (f := fun (p : Int) (s : Unit) => mb (k_check_place p n) fun v => .ok (.nx ())) (badP n) (fun x => ⟨"BadPlace", [("place", eI x)]⟩) (xs := ps) (s0 := ()) (fun x hx => ?_)
  · refine this.trans ?_
    cases ps.find? (badP n) <;> rfl
  unfold badP
  by_cases q : x < 0 ∨ n ≤ x
  · rw [checkE q, if_pos (by simp; exact q)]
    rfl
  · have q1 : 0 ≤ x := by omega
    have q2 : x < n := by omega
    rw [checkK q1 q2, if_neg (by simp; omega)]
    rfl
theorem good_ps {n : Int} {ps : List Int} (h : ∀ p ∈ ps, 0 ≤ p ∧ p < n) : ps.find? (badP n) = none := by
  rw [List.find?_eq_none]
  intro x hx
  have := h x hx
  unfold badP
  simp
  omega
theorem distinctK {t : Bool} {ps : List Int} {n : Int} (h : ∀ p ∈ ps, 0 ≤ p ∧ p < n) (hl : ps.length < 64) : k_distinct (t, ps) n = .ok (usort ps) := by
  unfold k_distinct kc_distinct
  rw [checkL, good_ps h]
  simp only [sqk]
  unfold sortSet
  rw [if_pos hl]
  rfl
theorem distinctE {t : Bool} {ps : List Int} {n x : Int} (h : ps.find? (badP n) = some x) : k_distinct (t, ps) n = .er ⟨"BadPlace", [("place", eI x)]⟩ := by
  unfold k_distinct kc_distinct
  rw [checkL, h]
  rfl
/-! ### sorted places -/
theorem rng_sorted (n : Int) : (rng 0 n).Pairwise (· < ·) := by
  unfold rng
  rw [List.pairwise_map]
  refine List.Pairwise.imp ?_ List.pairwise_lt_range
  intro a b h
  omega
theorem usort_rng {n : Int} {ps : List Int} (h : ∀ p ∈ ps, 0 ≤ p ∧ p < n) : usort ps = (rng 0 n).filter fun k => decide (k ∈ ps) := by
  refine (usort_eq ((rng_sorted n).filter _) fun k => ?_).symm
  rw [List.mem_filter, decide_eq_true_eq, mem_rng]
  exact ⟨fun z => z.2, fun z => ⟨h k z, z⟩⟩
theorem mem_usort {k : Int} {ps : List Int} : k ∈ usort ps ↔ k ∈ ps := by
  unfold usort
  unfold sortI
  rw [List.mem_mergeSort, mem_nub]
/-! ### changes -/
def chV (b : BV) (qs : List Int) : List (Int × Int × Int) := (qs.filter fun k => !decide (reachV b k = sAt b.strengths k)).map fun k => (k, sAt b.strengths k, reachV b k)
theorem chLoop {δ ρ : Type} {b : BV} (g : Good b) : ∀ (qs : List Int) (acc : List (Int × Int × Int)), (∀ p ∈ qs, 0 ≤ p ∧ p < b.strengths.length) → acc.length + qs.length ≤ 900000 →
    (forM (fun (p : Int) (s : List (Int × Int × Int)) => mb (ixM b.strengths p) fun before5 => mb (k_reach_of b p) fun after6 => if (!decide (after6 = before5)) = true then mb (app s (p, before5, after6)) fun c => .ok (.nx c) else .ok (.nx s)) qs acc : M (Out (List (Int × Int × Int)) δ ρ)) = .ok (.nx (acc ++ chV b qs))
  | [], acc, _, _ => by simp [forM, chV]
  | p :: qs, acc, h, hl => by
    unfold forM
    have hp := h p List.mem_cons_self
    rw [List.length_cons] at hl
    rw [ixS hp.1 hp.2, mbk, reachK g hp.1 hp.2, mbk]
    have ih := fun acc h2 => chLoop (δ := δ) (ρ := ρ) g qs acc (fun x hx => h x (List.mem_cons_of_mem _ hx)) h2
    by_cases q : reachV b p = sAt b.strengths p
    · rw [if_neg (by simp [q])]
      simp only
      rw [ih acc (by omega)]
      unfold chV
      rw [List.filter_cons_of_neg (by simp [q])]
    · rw [if_pos (by simp [q]), appK (by omega), mbk]
      simp only
      rw [ih _ (by rw [List.length_append, List.length_singleton]; omega)]
      unfold chV
      rw [List.filter_cons_of_pos (by simp [q])]
      simp
theorem usort_len {n : Int} {ps : List Int} (h : ∀ p ∈ ps, 0 ≤ p ∧ p < n) : (usort ps).length ≤ n.toNat := by
  rw [usort_rng h]
  refine Nat.le_trans (List.length_filter_le _ _) ?_
  rw [rng_len]
  omega
theorem changesK {t : Bool} {b : BV} {ps : List Int} (g : Good b) (h : ∀ p ∈ ps, 0 ≤ p ∧ p < b.strengths.length) (hl : ps.length < 64) : k_changes_of b (t, ps) = .ok (chV b (usort ps)) := by
  unfold k_changes_of kc_changes_of
  have := g.big
  have := usort_len h
  rw [lenK g.big, mbk, distinctK h hl, mbk, chLoop g _ [] (fun p hp => h p (mem_usort.mp hp)) (by simp; omega), sqk]
  rfl
theorem changesE {t : Bool} {b : BV} {ps : List Int} {x : Int} (g : Good b) (h : ps.find? (badP b.strengths.length) = some x) : k_changes_of b (t, ps) = .er ⟨"BadPlace", [("place", eI x)]⟩ := by
  unfold k_changes_of kc_changes_of
  rw [lenK g.big, mbk, distinctE h]
  rfl
theorem repLoop {δ ρ : Type} {b : BV} : ∀ (qs acc : List Int), (∀ p ∈ qs, 0 ≤ p ∧ p < b.strengths.length) →
    (forM (fun (x : Int × Int × Int) (s : List Int) => mb (setM s x.1 x.2.2) fun a => .ok (.nx a)) (chV b qs) (wkV b acc) : M (Out (List Int) δ ρ)) = .ok (.nx (wkV b (qs.reverse ++ acc)))
  | [], acc, _ => rfl
  | p :: qs, acc, h => by
    have hp := h p List.mem_cons_self
    have ih := fun acc => repLoop (δ := δ) (ρ := ρ) (b := b) qs acc fun x hx => h x (List.mem_cons_of_mem _ hx)
    by_cases q : reachV b p = sAt b.strengths p
    · have e : chV b (p :: qs) = chV b qs := by unfold chV; rw [List.filter_cons_of_neg (by simp [q])]
      rw [e, ← wkV_same (qs := acc) hp.1 hp.2 q, ih, List.reverse_cons, List.append_assoc]
      rfl
    · have e : chV b (p :: qs) = (p, sAt b.strengths p, reachV b p) :: chV b qs := by unfold chV; rw [List.filter_cons_of_pos (by simp [q])]; rfl
      rw [e]
      unfold forM
      rw [setK hp.1 (by rw [wkV_len]; exact hp.2), mbk]
      simp only
      rw [wkV_set hp.1 hp.2, ih, List.reverse_cons, List.append_assoc]
      rfl
theorem replacedK {b : BV} {qs : List Int} (g : Good b) (h : ∀ p ∈ qs, 0 ≤ p ∧ p < b.strengths.length) : k_replaced b (chV b qs) = .ok ⟨wkV b qs, b.lengths, b.ring⟩ := by
  unfold k_replaced kc_replaced
  have := repLoop (δ := Empty) (ρ := BV) (b := b) qs [] h
  rw [wkV_nil] at this
  rw [this, sqk, wkV_congr (qs := qs) fun k _ _ => by simp, initK (good_wk g)]
  rfl
theorem wakeK {t : Bool} {b : BV} {ps : List Int} (g : Good b) (h : ∀ p ∈ ps, 0 ≤ p ∧ p < b.strengths.length) (hl : ps.length < 64) : k_wake b (t, ps) = .ok ⟨wkV b ps, b.lengths, b.ring⟩ := by
  unfold k_wake kc_wake
  rw [changesK g h hl, mbk, replacedK g fun p hp => h p (mem_usort.mp hp), mbk, wkV_congr (qs := ps) fun k _ _ => mem_usort]
  rfl
theorem wakeE {t : Bool} {b : BV} {ps : List Int} {x : Int} (g : Good b) (h : ps.find? (badP b.strengths.length) = some x) : k_wake b (t, ps) = .er ⟨"BadPlace", [("place", eI x)]⟩ := by
  unfold k_wake kc_wake
  rw [changesE g h]
  rfl
theorem reaches_wk {b : BV} : (rng 0 b.strengths.length).map (reachV b) = wkV b (rng 0 b.strengths.length) := by
  unfold wkV
  refine List.map_congr_left fun k hk => ?_
  rw [if_pos hk]
theorem wakeAllK {b : BV} (g : Good b) : k_wake_all b = .ok ⟨wkV b (rng 0 b.strengths.length), b.lengths, b.ring⟩ := by
  unfold k_wake_all kc_wake_all
  rw [reachesK g, mbk, reaches_wk, initK (good_wk g)]
  rfl
/-! ### restless, hungry -/
theorem lcK {α β : Type} {c : α → M Bool} {f : α → M β} (q : α → Bool) (g : α → β) {xs : List α} (hl : xs.length ≤ 1000000) (hc : ∀ x ∈ xs, c x = .ok (q x)) (hf : ∀ x ∈ xs, f x = .ok (g x)) : lcM c f xs = .ok ((xs.filter q).map g) := lcM_ok (lineK hl) hc fun x hx _ => hf x hx
def restV (b : BV) : List Int := (rng 0 b.strengths.length).filter fun k => !decide (reachV b k = sAt b.strengths k)
theorem lawRestK {r : Bool} {zs ss : List Int} (g : Good ⟨ss, zs, r⟩) : k__law_restless r zs ss = .ok (restV ⟨ss, zs, r⟩) := by
  unfold k__law_restless kc__law_restless
  have hz : zs.length = ss.length := g.len
  have hb : ss.length ≤ 90000 := g.big
  rw [rngK (by decide) (by decide) (by omega) (by omega), mbk, lcK (fun k => !decide (reachV ⟨ss, zs, r⟩ k = sAt ss k)) (fun k => k) (by rw [rng_len]; omega), List.map_id']
  · show M.ok (List.filter _ (rng 0 (zs.length : Int))) = _
    unfold restV
    rw [hz]
  · intro k hk
    have := mem_rng.mp hk
    rw [lawReachK hz hb this.1 (by omega), ixS this.1 (by omega)]
    rfl
  · intro k _; rfl
theorem sAt_reaches {b : BV} {k : Int} (h1 : 0 ≤ k) (h2 : k < b.strengths.length) : sAt ((rng 0 b.strengths.length).map (reachV b)) k = reachV b k := by
  rw [reaches_wk, wkV_at h1 h2, if_pos (mem_rng.mpr ⟨h1, h2⟩)]
theorem restK {b : BV} (g : Good b) : k_restless b = .ok (restV b) := by
  unfold k_restless kc_restless
  have hb := g.big
  rw [reachesK g, mbk, lenK hb, mbk, rngK (by decide) (by decide) (by omega) (by omega), mbk, lcK (fun k => !decide (reachV b k = sAt b.strengths k)) (fun k => k) (by rw [rng_len]; omega), List.map_id']
  · rfl
  · intro k hk
    have := mem_rng.mp hk
    rw [ixS this.1 (by rw [List.length_map, rng_len]; omega), ixS this.1 this.2, sAt_reaches this.1 this.2]
    rfl
  · intro k _; rfl
def hungV (b : BV) : List Int := (rng 0 b.strengths.length).filter fun k => decide (sAt b.strengths k < reachV b k)
theorem hungK {b : BV} (g : Good b) : k_hungry b = .ok (hungV b) := by
  unfold k_hungry kc_hungry
  have hb := g.big
  rw [reachesK g, mbk, lenK hb, mbk, rngK (by decide) (by decide) (by omega) (by omega), mbk, lcK (fun k => decide (sAt b.strengths k < reachV b k)) (fun k => k) (by rw [rng_len]; omega), List.map_id']
  · rfl
  · intro k hk
    have := mem_rng.mp hk
    rw [ixS this.1 (by rw [List.length_map, rng_len]; omega), ixS this.1 this.2, sAt_reaches this.1 this.2]
    rfl
  · intro k _; rfl
theorem hung_rest {b : BV} : (restV b).filter (fun k => decide (sAt b.strengths k < reachV b k)) = hungV b := by
  unfold restV hungV
  rw [List.filter_filter]
  refine List.filter_congr fun k _ => ?_
  by_cases h : sAt b.strengths k < reachV b k
  · simp [h]; omega
  · simp [h]
theorem atRestK {b : BV} (g : Good b) : k_at_rest b = .ok (decide (restV b = [])) := by
  unfold k_at_rest kc_at_rest
  rw [restK g]
  simp only [mbk]
  show M.ok (decide (((restV b).length : Int) = 0)) = _
  congr 1
  cases restV b with
  | nil => rfl
  | cons x l => simp; omega
theorem rest_len {b : BV} : (restV b).length ≤ b.strengths.length := by
  unfold restV
  refine Nat.le_trans (List.length_filter_le _ _) ?_
  rw [rng_len]; omega
/-! ### a list or a tuple -/
theorem numbersQK {t : Bool} {xs ys : List Int} (hl : ys.length ≤ 90000) : k__law_numbersQ (t, xs) ys t = .ok (decide (xs = ys)) := by
  unfold k__law_numbersQ kc__law_numbersQ
  rw [if_neg (by cases t <;> simp)]
  by_cases h : xs.length = ys.length
  · rw [if_neg (by simp [h]), rngK (by decide) (by decide) (by omega) (by omega), mbk, numLoop h]
    by_cases e : xs = ys
    · rw [if_pos e, sqk]; simp [e]
    · rw [if_neg e]; simp [e]
  · have : xs ≠ ys := fun e => h (by rw [e])
    have h' : ¬ ((xs.length : Int) = (ys.length : Int)) := by omega
    rw [if_pos (by simp [h'])]
    simp [this]
theorem handedK {t : Bool} {ps : List Int} : k__law_handed ps t = .ok (t, ps) := by
  unfold k__law_handed kc__law_handed
  cases t <;> rfl
theorem isChK {xs : List (Int × Int × Int)} (hl : xs.length ≤ 90000) : k__law_is_changes xs xs = .ok true := by
  unfold k__law_is_changes kc__law_is_changes
  rw [if_neg (by simp), rngK (by decide) (by decide) (by omega) (by omega), mbk, forM_pass, sqk]
  · rfl
  · intro k hk
    have := mem_rng.mp hk
    obtain ⟨x, e1, e2⟩ := ixK (xs := xs) this.1 this.2
    rw [e2]
    simp only [mbk]
    rw [numbersTK true (by simp)]
    simp [mbk]
theorem cutN {α : Type} (xs : List α) (n : Nat) : cut xs (some (n : Int)) none = xs.drop n := by
  unfold cut
  rw [HT.sIx_nat xs.length 0 n, HT.sIx_none]
  by_cases h : n ≤ xs.length
  · rw [Nat.min_eq_left h, List.take_of_length_le (by rw [List.length_drop]; exact Nat.le_refl _)]
  · rw [Nat.min_eq_right (by omega), List.drop_of_length_le (by omega), List.drop_of_length_le (by omega), List.take_nil]
end DL

namespace DL
open PySem L2
/-! ## trains by steps, lords, leaders -/
def kc_lord_of (beads : BV) (place : Int) : M (Out Unit Empty (Option Int)) := mb (rngL 0 place) fun before1 =>
    sq (if beads.ring = true then mb (mb (mb (mb (k_Beads___len__ beads) lenO) fun v2 => rngL (place + 1) v2) fun v3 => catM v3 before1) fun before4 =>
    .ok (.nx before4) else .ok (.nx before1)) fun (j5 : List Int) =>
    sq (forM (fun (at6 : Int) (s7 : Unit) =>
    mb (mb (ixM beads.strengths at6) fun v8 => mb (ixM beads.strengths place) fun v9 => (.ok (decide (v9 < v8)))) fun v10 => if v10 = true then .ok (.rt (some at6))
    else .ok (.nx ())) j5.reverse ()) fun s11 =>
    .ok (.rt (none : Option Int))
def k_lord_of (beads : BV) (place : Int) : M (Option Int) := fnV (.ok none) (kc_lord_of beads place)
def kc_lords_of (beads : BV) : M (Out Unit Empty (List (Option Int))) := mb (mb (mb (mb (k_Beads___len__ beads) lenO) fun v1 => rngM 0 v1) fun v2 => mapC (fun place3 => k_lord_of beads place3) v2) fun v4 => .ok (.rt v4)
def k_lords_of (beads : BV) : M (List (Option Int)) := fnV .no (kc_lords_of beads)
def kc_leaders_of (beads : BV) : M (Out Unit Empty (List Int)) := mb (k_lords_of beads) fun lords1 =>
    mb (mb (mb (mb (k_Beads___len__ beads) lenO) fun v2 => rngM 0 v2) fun v3 => lcM (fun place4 => mb (ixM lords1 place4) fun v5 => (.ok v5.isNone)) (fun place4 => (.ok place4)) v3) fun v6 => .ok (.rt v6)
def k_leaders_of (beads : BV) : M (List Int) := fnV .no (kc_leaders_of beads)
def kc__law_train (round_flag : Bool) (strengths : (List Int)) (place : Int) : M (Out Unit Empty (List Int)) := mb (rngM 1 (strengths.length : Int)) fun v1 => sq (forM (fun (step2 : Int) (s3 : List Int) =>
    sq (if (decide ((strengths.length : Int) ≤ (place + step2))) = true then if (!round_flag) = true then .ok (.bk s3)
    else .ok (.nx ((place + step2) - (strengths.length : Int))) else .ok (.nx (place + step2))) fun (j4 : Int) =>
    mb (mb (ixM strengths j4) fun v5 => mb (ixM strengths place) fun v6 => (.ok (decide (v6 ≤ v5)))) fun v7 => if v7 = true then .ok (.bk s3)
    else mb (app s3 j4) fun train8 =>
    .ok (.nx train8)) v1 ([] : List Int)) fun s9 =>
    .ok (.rt s9)
def k__law_train (round_flag : Bool) (strengths : (List Int)) (place : Int) : M (List Int) := fnV .no (kc__law_train round_flag strengths place)
def kc__law_are_lords (told : (List (Option Int))) (due : (List (Option Int))) : M (Out Unit Empty Bool) := if ((!true) || (!decide ((told.length : Int) = (due.length : Int)))) = true then .ok (.rt false)
    else mb (rngM 0 (due.length : Int)) fun v1 => sq (forM (fun (place2 : Int) (s3 : Unit) =>
    mb (mb (ixM due place2) fun v4 => (.ok v4.isNone)) fun v5 => if v5 = true then mb (mb (ixM told place2) fun v6 => (.ok v6.isSome)) fun v7 => if v7 = true then .ok (.rt false)
    else .ok (.nx ())
    else mb (mb (mb (mb (ixM told place2) fun v8 => k__law_is_integer_v1 v8) fun v9 => (.ok (!v9))) fun v10 => if v10 = true then .ok true else mb (ixM told place2) fun v11 => mb (ixM due place2) fun v12 => (.ok (!decide (v11 = v12)))) fun v13 => if v13 = true then .ok (.rt false)
    else .ok (.nx ())) v1 ()) fun s14 =>
    .ok (.rt true)
def k__law_are_lords (told : (List (Option Int))) (due : (List (Option Int))) : M Bool := fnV .no (kc__law_are_lords told due)

theorem rng_cons {lo hi : Int} (h : lo < hi) : rng lo hi = lo :: rng (lo + 1) hi := by
  rw [rng_app (lo := lo) (mid := lo + 1) (hi := hi) (by omega) (by omega)]
  have e : rng lo (lo + 1) = [lo] := by
    unfold rng
    rw [show (lo + 1 - lo).toNat = 1 by omega]
    simp
  rw [e]
  rfl
theorem mem_tw {q : Int → Bool} : ∀ (n : Nat) {lo hi x : Int}, (hi - lo).toNat = n → (x ∈ (rng lo hi).takeWhile q ↔ lo ≤ x ∧ x < hi ∧ ∀ y, lo ≤ y → y ≤ x → q y = true) := by
  intro n
  induction n with
  | zero =>
    intro lo hi x h
    rw [rng_nil (by omega)]
    simp
    omega
  | succ n ih =>
    intro lo hi x h
    rw [rng_cons (by omega)]
    by_cases c : q lo = true
    · rw [List.takeWhile_cons_of_pos c, List.mem_cons, ih (lo := lo + 1) (by omega)]
      constructor
      · rintro (rfl | ⟨h1, h2, h3⟩)
        · exact ⟨Int.le_refl _, by omega, fun y h4 h5 => by
            have : y = x := by omega
            rw [this]; exact c⟩
        · refine ⟨by omega, h2, fun y h4 h5 => ?_⟩
          by_cases e : y = lo
          · rw [e]; exact c
          · exact h3 y (by omega) h5
      · rintro ⟨h1, h2, h3⟩
        by_cases e : x = lo
        · exact .inl e
        · exact .inr ⟨by omega, h2, fun y h4 h5 => h3 y (by omega) h5⟩
    · rw [List.takeWhile_cons_of_neg c]
      constructor
      · intro z; cases z
      · rintro ⟨h1, h2, h3⟩
        exact absurd (h3 lo (Int.le_refl _) h1) c
/-- d steps on -/
def onV (n p d : Int) : Int := if n ≤ p + d then p + d - n else p + d
def stepsV (ring : Bool) (n p : Int) : Int := if ring = true then n else n - p
theorem runs_steps {ring : Bool} {n p : Int} (h0 : 0 ≤ p) (h1 : p < n) : runsV ring n p = (rng 1 (stepsV ring n p)).map (onV n p) := by
  unfold runsV stepsV
  cases ring with
  | true =>
    rw [if_pos rfl, if_pos rfl]
    exact (map_at h0 h1).symm
  | false =>
    rw [if_neg (by decide), if_neg (by decide), List.append_nil, show rng (p + 1) n = rng (1 + p) (n - p + p) by congr 1 <;> omega, ← rng_map]
    refine List.map_congr_left fun x hx => ?_
    have := mem_rng.mp hx
    unfold onV
    rw [if_neg (by omega)]
    omega
theorem mem_train {ring : Bool} {ss : List Int} {p x : Int} (h0 : 0 ≤ p) (h1 : p < ss.length) : x ∈ trainV ring ss p ↔ ∃ d, 1 ≤ d ∧ d < stepsV ring ss.length p ∧ x = onV ss.length p d ∧ ∀ e, 1 ≤ e → e ≤ d → sAt ss (onV ss.length p e) < sAt ss p := by
  unfold trainV
  rw [runs_steps h0 h1, tw_map, List.mem_map]
  constructor
  · rintro ⟨d, hd, rfl⟩
    obtain ⟨h2, h3, h4⟩ := (mem_tw _ rfl).mp hd
    exact ⟨d, h2, h3, rfl, fun e h5 h6 => by
      have := h4 e h5 h6
      simp only [Bool.not_eq_true', decide_eq_false_iff_not] at this
      omega⟩
  · rintro ⟨d, h2, h3, rfl, h4⟩
    exact ⟨d, (mem_tw _ rfl).mpr ⟨h2, h3, fun y h5 h6 => by
      have := h4 y h5 h6
      simp only [Bool.not_eq_true', decide_eq_false_iff_not]
      omega⟩, rfl⟩
/-- the retinues nest -/
theorem nest_in {ring : Bool} {ss : List Int} {p q x : Int} (hp : 0 ≤ p ∧ p < ss.length) (hq : 0 ≤ q ∧ q < ss.length) (h : q ∈ trainV ring ss p) (hx : x ∈ trainV ring ss q ∨ x = q) : x ∈ trainV ring ss p := by
  rcases hx with hx | hx
  · obtain ⟨d, d1, d2, d3, d4⟩ := (mem_train hp.1 hp.2).mp h
    obtain ⟨e, e1, e2, e3, e4⟩ := (mem_train hq.1 hq.2).mp hx
    have lt := d4 d d1 (Int.le_refl _)
    rw [← d3] at lt
    unfold stepsV at d2 e2
    by_cases w : d + e < (ss.length : Int) ∧ (ring = true ∨ p + d + e < ss.length)
    · refine (mem_train hp.1 hp.2).mpr ⟨d + e, by omega, ?_, ?_, fun f f1 f2 => ?_⟩
      · unfold stepsV
        cases ring <;> simp at * <;> omega
      · rw [e3, d3]
        unfold onV
        split <;> split <;> (try split) <;> omega
      · by_cases c : f ≤ d
        · exact d4 f f1 c
        · have := e4 (f - d) (by omega) (by omega)
          have eq : onV ss.length q (f - d) = onV ss.length p f := by
            rw [d3]
            unfold onV
            split <;> split <;> (try split) <;> omega
          rw [eq] at this
          omega
    · exfalso
      cases ring with
      | true =>
        simp only [if_true, true_or, and_true] at d2 e2 w
        have := e4 (ss.length - d) (by omega) (by omega)
        have eq : onV ss.length q (ss.length - d) = p := by
          rw [d3]
          unfold onV
          split <;> split <;> omega
        rw [eq] at this
        omega
      | false =>
        simp only [Bool.false_eq_true, if_false, false_or] at d2 e2 w
        have : q = p + d := by
          rw [d3]
          unfold onV
          rw [if_neg (by omega)]
        omega
  · rw [hx]; exact h
theorem nest_apart {ring : Bool} {ss : List Int} {p q x : Int} (hp : 0 ≤ p ∧ p < ss.length) (hq : 0 ≤ q ∧ q < ss.length) (ne : p ≠ q) (h1 : q ∉ trainV ring ss p) (h2 : p ∉ trainV ring ss q) (hx : x ∈ trainV ring ss p ∨ x = p) (hy : x ∈ trainV ring ss q ∨ x = q) : False := by
  rcases hx with hx | rfl
  · rcases hy with hy | rfl
    · obtain ⟨a, a1, a2, a3, a4⟩ := (mem_train hp.1 hp.2).mp hx
      obtain ⟨b, b1, b2, b3, b4⟩ := (mem_train hq.1 hq.2).mp hy
      have key1 : ∀ d, 1 ≤ d → d ≤ a → q = onV ss.length p d → False := fun d d1 d2 d3 => h1 ((mem_train hp.1 hp.2).mpr ⟨d, d1, by omega, d3, fun e e1 e2 => a4 e e1 (by omega)⟩)
      have key2 : ∀ d, 1 ≤ d → d ≤ b → p = onV ss.length q d → False := fun d d1 d2 d3 => h2 ((mem_train hq.1 hq.2).mpr ⟨d, d1, by omega, d3, fun e e1 e2 => b4 e e1 (by omega)⟩)
      rw [a3] at b3
      unfold stepsV at a2 b2
      cases ring with
      | true =>
        simp only [if_true] at a2 b2
        unfold onV at b3
        by_cases c : b < a
        · refine key1 (a - b) (by omega) (by omega) ?_
          unfold onV
          split at b3 <;> split at b3 <;> split <;> omega
        · refine key2 (b - a) ?_ (by omega) ?_
          · split at b3 <;> split at b3 <;> omega
          · unfold onV
            split at b3 <;> split at b3 <;> split <;> omega
      | false =>
        simp only [Bool.false_eq_true, if_false] at a2 b2
        unfold onV at b3
        rw [if_neg (by omega), if_neg (by omega)] at b3
        by_cases c : b < a
        · refine key1 (a - b) (by omega) (by omega) ?_
          unfold onV
          rw [if_neg (by omega)]
          omega
        · refine key2 (b - a) (by omega) (by omega) ?_
          unfold onV
          rw [if_neg (by omega)]
          omega
    · exact h1 hx
  · rcases hy with hy | hy
    · exact h2 hy
    · exact ne hy

theorem lawTrainK {r : Bool} {ss : List Int} {p : Int} (hb : ss.length ≤ 90000) (h1 : 0 ≤ p) (h2 : p < ss.length) : k__law_train r ss p = .ok (trainV r ss p) := by
  unfold k__law_train kc__law_train
  have rl := runs_len (ring := r) h1 h2
  rw [rngK (by decide) (by decide) (by omega) (by omega), mbk]
  rw [stepsK (fun (j : Int) (s : List Int) => mb (mb (ixM ss j) fun v5 => mb (ixM ss p) fun v6 => (.ok (decide (v6 ≤ v5)))) fun v7 => if v7 = true then .ok (.bk s) else mb (app s j) fun t => .ok (.nx t)) _ h1 h2]
  rw [trainLoop ⟨h1, h2⟩ (fun x hx => runs_mem h1 h2 hx) (by omega), sqk]
  rfl
/-! ### steps back -/
def bkV (n p d : Int) : Int := if p - d < 0 then p - d + n else p - d
def backN (ring : Bool) (n p : Int) : Int := if ring = true then n else p + 1
def backV (ring : Bool) (n p : Int) : List Int := (rng 1 (backN ring n p)).map (bkV n p)
theorem rev_rng {lo hi : Int} : (rng lo hi).reverse = (rng 1 (hi - lo + 1)).map fun d => hi - d := by
  apply List.ext_getElem?
  intro i
  by_cases h : i < (hi - lo).toNat
  · rw [List.getElem?_reverse (by rw [rng_len]; exact h), rng_len, rng_get (by omega), List.getElem?_map, rng_get (by omega)]
    simp only [Option.map_some]
    congr 1
    omega
  · rw [List.getElem?_eq_none (by rw [List.length_reverse, rng_len]; omega), List.getElem?_eq_none (by rw [List.length_map, rng_len]; omega)]
theorem back_rev {ring : Bool} {n p : Int} (h0 : 0 ≤ p) (h1 : p < n) : (if ring = true then rng (p + 1) n ++ rng 0 p else rng 0 p).reverse = backV ring n p := by
  unfold backV backN
  cases ring with
  | true =>
    rw [if_pos rfl, if_pos rfl, List.reverse_append, rev_rng, rev_rng, rng_app (lo := 1) (mid := p + 1) (hi := n) (by omega) (by omega), List.map_append]
    congr 1
    · rw [show p - 0 + 1 = p + 1 by omega]
      refine List.map_congr_left fun x hx => ?_
      have := mem_rng.mp hx
      unfold bkV
      rw [if_neg (by omega)]
    · rw [show rng (p + 1) n = rng (1 + p) (n - p + p) by congr 1 <;> omega, ← rng_map, List.map_map, show n - (p + 1) + 1 = n - p by omega]
      refine List.map_congr_left fun x hx => ?_
      have := mem_rng.mp hx
      show _ = bkV n p (x + p)
      unfold bkV
      rw [if_pos (by omega)]
      omega
  | false =>
    rw [if_neg (by decide), if_neg (by decide), rev_rng, show p - 0 + 1 = p + 1 by omega]
    refine List.map_congr_left fun x hx => ?_
    have := mem_rng.mp hx
    unfold bkV
    rw [if_neg (by omega)]
theorem back_mem {ring : Bool} {n p x : Int} (h0 : 0 ≤ p) (h1 : p < n) (h : x ∈ backV ring n p) : 0 ≤ x ∧ x < n := by
  unfold backV at h
  obtain ⟨d, hd, rfl⟩ := List.mem_map.mp h
  have := mem_rng.mp hd
  unfold backN at this
  unfold bkV
  split at this <;> split <;> omega
def lordV (ring : Bool) (ss : List Int) (p : Int) : Option Int := (backV ring ss.length p).find? fun x => decide (sAt ss p < sAt ss x)
theorem lordK {b : BV} {p : Int} (h : b.strengths.length ≤ 90000) (h1 : 0 ≤ p) (h2 : p < b.strengths.length) : k_lord_of b p = .ok (lordV b.ring b.strengths p) := by
  unfold k_lord_of kc_lord_of
  rw [rngLK (by omega) (by omega) (by omega) (by omega), mbk, lenK h, mbk, rngLK (by omega) (by omega) (by omega) (by omega), mbk, catK (by rw [rng_len, rng_len]; omega), mbk]
  have e : (if b.ring = true then .ok (.nx (rng (p + 1) b.strengths.length ++ rng 0 p)) else .ok (.nx (rng 0 p)) : M (Out (List Int) Empty (Option Int))) = .ok (.nx (if b.ring = true then rng (p + 1) b.strengths.length ++ rng 0 p else rng 0 p)) := by
    split <;> rfl
  rw [e, sqk, back_rev h1 h2, forM_ret (fun x => decide (sAt b.strengths p < sAt b.strengths x)) some]
  · unfold lordV
    cases (backV b.ring b.strengths.length p).find? fun x => decide (sAt b.strengths p < sAt b.strengths x) with
    | none => rfl
    | some x => rfl
  · intro x hx
    have := back_mem h1 h2 hx
    rw [ixS this.1 this.2, ixS h1 h2]
    simp only [mbk]
theorem lordsK {b : BV} (g : Good b) : k_lords_of b = .ok ((rng 0 b.strengths.length).map (lordV b.ring b.strengths)) := by
  unfold k_lords_of kc_lords_of
  have := g.big
  rw [lenK g.big, mbk, rngK (by decide) (by decide) (by omega) (by omega), mbk, mapC_ok (g := lordV b.ring b.strengths) (lineK (by rw [rng_len]; omega)) fun x hx => lordK g.big (mem_rng.mp hx).1 (mem_rng.mp hx).2, mbk]
  rfl
theorem ixMapR {α : Type} {f : Int → α} {n k : Int} (h1 : 0 ≤ k) (h2 : k < n) : ixM ((rng 0 n).map f) k = .ok (f k) := by
  refine ixE h1 ?_
  rw [List.getElem?_map, rng_get (by omega)]
  simp only [Option.map_some]
  rw [show (0 : Int) + (k.toNat : Int) = k by omega]
def leadV (ring : Bool) (ss : List Int) : List Int := (rng 0 ss.length).filter fun k => (lordV ring ss k).isNone
theorem leadersK {b : BV} (g : Good b) : k_leaders_of b = .ok (leadV b.ring b.strengths) := by
  unfold k_leaders_of kc_leaders_of
  have hb := g.big
  rw [lordsK g, mbk, lenK hb, mbk, rngK (by decide) (by decide) (by omega) (by omega), mbk, lcK (fun k => (lordV b.ring b.strengths k).isNone) (fun k => k) (by rw [rng_len]; omega), List.map_id']
  · rfl
  · intro k hk
    have := mem_rng.mp hk
    rw [ixMapR this.1 this.2]
    rfl
  · intro k _; rfl
/-! ### the nearest whose train holds p -/
theorem find_same {α : Type} {P Q : α → Bool} : ∀ (l : List α), (∀ x ∈ l, Q x = true → P x = true) → (∀ (i : Nat) (x : α), l[i]? = some x → P x = true → (∀ (k : Nat) (y : α), k < i → l[k]? = some y → P y = false) → Q x = true) → l.find? Q = l.find? P
  | [], _, _ => rfl
  | x :: l, h1, h2 => by
    by_cases c : P x = true
    · have q : Q x = true := h2 0 x rfl c fun k y hk _ => absurd hk (Nat.not_lt_zero _)
      rw [List.find?_cons_of_pos q, List.find?_cons_of_pos c]
    · have q : ¬ Q x = true := fun z => c (h1 x List.mem_cons_self z)
      rw [List.find?_cons_of_neg q, List.find?_cons_of_neg c]
      refine find_same l (fun y hy => h1 y (List.mem_cons_of_mem _ hy)) fun i y hy hp hk => h2 (i + 1) y (by simpa using hy) hp fun k z hkk hz => ?_
      cases k with
      | zero =>
        simp at hz
        subst hz
        simpa using c
      | succ k => exact hk k z (by omega) (by simpa using hz)
theorem lord_train {ring : Bool} {ss : List Int} {p : Int} (h1 : 0 ≤ p) (h2 : p < ss.length) : (backV ring ss.length p).find? (fun x => decide (p ∈ trainV ring ss x)) = lordV ring ss p := by
  unfold lordV
  refine find_same _ (fun x hx hq => ?_) fun i x hx hp hk => ?_
  · have hx2 := back_mem h1 h2 hx
    rw [decide_eq_true_eq] at hq ⊢
    obtain ⟨d, d1, _, d3, d4⟩ := (mem_train hx2.1 hx2.2).mp hq
    have := d4 d d1 (Int.le_refl _)
    rwa [← d3] at this
  · rw [decide_eq_true_eq] at hp ⊢
    unfold backV at hx hk
    have hl := (List.getElem?_eq_some_iff.mp hx).1
    rw [List.length_map, rng_len] at hl
    have at_ : ∀ k : Nat, k ≤ i → ((rng 1 (backN ring ss.length p)).map (bkV ss.length p))[k]? = some (bkV ss.length p (1 + k)) := fun k hk => by
      rw [List.getElem?_map, rng_get (by omega)]
      rfl
    rw [at_ i (Nat.le_refl _)] at hx
    have hx' := Option.some.inj hx
    have hb : backN ring ss.length p = if ring = true then (ss.length : Int) else p + 1 := rfl
    have x0 : 0 ≤ x ∧ x < ss.length ∧ onV ss.length x (1 + i) = p ∧ (1 + i : Int) < stepsV ring ss.length x := by
      rw [hb] at hl
      rw [← hx']
      unfold onV bkV stepsV
      cases ring with
      | true =>
        simp only [if_true] at hl ⊢
        split <;> split <;> omega
      | false =>
        simp only [Bool.false_eq_true, if_false] at hl ⊢
        split <;> split <;> omega
    refine (mem_train x0.1 x0.2.1).mpr ⟨1 + i, by omega, x0.2.2.2, x0.2.2.1.symm, fun e e1 e2 => ?_⟩
    by_cases c : e = 1 + i
    · rw [c, x0.2.2.1]
      exact hp
    · have lt : (i - e.toNat) < i := by omega
      have := hk (i - e.toNat) _ lt (at_ _ (by omega))
      rw [decide_eq_false_iff_not] at this
      have eq : bkV ss.length p (1 + ((i - e.toNat : Nat) : Int)) = onV ss.length x e := by
        rw [← hx']
        rw [hb] at hl
        unfold onV bkV
        cases ring with
        | true =>
          simp only [if_true] at hl
          split <;> split <;> (try split) <;> omega
        | false =>
          simp only [Bool.false_eq_true, if_false] at hl
          split <;> split <;> (try split) <;> omega
      rw [eq] at this
      omega
theorem lord_some {ring : Bool} {ss : List Int} {p j : Int} (h1 : 0 ≤ p) (h2 : p < ss.length) (h : lordV ring ss p = some j) : (0 ≤ j ∧ j < ss.length) ∧ sAt ss p < sAt ss j := by
  unfold lordV at h
  have a := List.mem_of_find?_eq_some h
  have b := List.find?_some h
  exact ⟨back_mem h1 h2 a, of_decide_eq_true b⟩
/-- a ring's leaders are its strongest -/
theorem lord_none {ss : List Int} {p : Int} (h1 : 0 ≤ p) (h2 : p < ss.length) : lordV true ss p = none ↔ ∀ k, 0 ≤ k → k < (ss.length : Int) → sAt ss k ≤ sAt ss p := by
  unfold lordV
  rw [List.find?_eq_none]
  constructor
  · intro h k k1 k2
    by_cases c : k = p
    · rw [c]; exact Int.le_refl _
    · have hm : k ∈ backV true ss.length p := by
        unfold backV backN
        rw [if_pos rfl, List.mem_map]
        by_cases d : k < p
        · refine ⟨p - k, mem_rng.mpr (by omega), ?_⟩
          unfold bkV
          rw [if_neg (by omega)]
          omega
        · refine ⟨p - k + ss.length, mem_rng.mpr (by omega), ?_⟩
          unfold bkV
          rw [if_pos (by omega)]
          omega
      have := h k hm
      simp only [decide_eq_true_eq] at this
      omega
  · intro h x hx
    have := back_mem h1 h2 hx
    have := h x this.1 this.2
    simp only [decide_eq_true_eq]
    omega
theorem areLordsK {xs : List (Option Int)} (hl : xs.length ≤ 90000) : k__law_are_lords xs xs = .ok true := by
  unfold k__law_are_lords kc__law_are_lords
  rw [if_neg (by simp), rngK (by decide) (by decide) (by omega) (by omega), mbk, forM_pass, sqk]
  · rfl
  · intro k hk
    have := mem_rng.mp hk
    obtain ⟨x, e1, e2⟩ := ixK (xs := xs) this.1 this.2
    rw [e2]
    simp only [mbk, isintOK]
    cases x with
    | none => simp [mbk]
    | some z => simp [mbk]
end DL

namespace DL
open PySem PySem.Spec PyProof.Rows L2
/-! ### the text -/
def topS (i : Nat) : Stmt := PySem.Challenge.pw_retinue_k03_raised_and_joined.main.body.getD i (.Pass ⟨0, 0, 0, 0⟩)
def inClass (s : Stmt) (i : Nat) : Stmt := match s with
  | .ClassDef _ _ _ b _ _ _ _ _ _ _ => b.getD i (.Pass ⟨0, 0, 0, 0⟩)
  | _ => (.Pass ⟨0, 0, 0, 0⟩)
abbrev s__law_cell : Stmt := topS 16
abbrev s__law_draws : Stmt := topS 17
abbrev s__law_lengths : Stmt := topS 18
abbrev s__law_strengths : Stmt := topS 19
abbrev s_Beads___init__ : Stmt := inClass (topS 14) 0
abbrev s__law_higher : Stmt := topS 26
abbrev s__law_reach : Stmt := topS 20
abbrev s__law_all : Stmt := topS 25
abbrev s_Beads___len__ : Stmt := inClass (topS 14) 5
abbrev s_check_place : Stmt := topS 7
abbrev s_run_of : Stmt := topS 9
abbrev s_train_of : Stmt := topS 10
abbrev s_reach_of : Stmt := topS 11
abbrev s_reaches : Stmt := topS 12
abbrev s__law_is_integer : Stmt := topS 21
abbrev s__law_numbers : Stmt := topS 22
abbrev s_Beads_with_strength : Stmt := inClass (topS 14) 3
abbrev s__law_is_raised : Stmt := topS 27
abbrev s_Beads___mul__ : Stmt := inClass (topS 14) 9
abbrev s__law_is_standing : Stmt := topS 23
abbrev s_Beads_total : Stmt := inClass (topS 14) 1
abbrev s_Beads_greatest : Stmt := inClass (topS 14) 2
abbrev s__law_is_counted : Stmt := topS 24
abbrev s__law_is_repeated : Stmt := topS 28
abbrev s_Beads___add__ : Stmt := inClass (topS 14) 8
abbrev s__law_is_joined : Stmt := topS 29
abbrev s__law_sum : Stmt := topS 30
abbrev s__law_is_unlike : Stmt := topS 31
abbrev s_law : Stmt := topS 32
abbrev s_BadBeads___init__ : Stmt := inClass (topS 3) 0
abbrev s_BadPlace___init__ : Stmt := inClass (topS 4) 0
abbrev s_WrongKind___init__ : Stmt := inClass (topS 5) 0
abbrev s_Beads___iter__ : Stmt := inClass (topS 14) 6
theorem sc__law_cell : FnScope ["script", "k"] ["script", "k"] (defScope s__law_cell) := ⟨rfl, rfl, rfl, by decide +kernel, rfl, by decide +kernel, by decide +kernel⟩
theorem sc__law_draws : FnScope ["cell", "sizes", "left", "draws", "k", "mixed"] ["cell", "sizes"] (defScope s__law_draws) := ⟨rfl, rfl, rfl, by decide +kernel, rfl, by decide +kernel, by decide +kernel⟩
theorem sc__law_lengths : FnScope ["cell", "many", "flavour", "size", "draw"] ["cell", "many"] (defScope s__law_lengths) := ⟨rfl, rfl, rfl, by decide +kernel, rfl, by decide +kernel, by decide +kernel⟩
theorem sc__law_strengths : FnScope ["cell", "sizes", "flavour", "total", "level", "most", "size"] ["cell", "sizes"] (defScope s__law_strengths) := ⟨rfl, rfl, rfl, by decide +kernel, rfl, by decide +kernel, by decide +kernel⟩
theorem sc_Beads___init__ : FnScope ["self", "strengths", "lengths", "ring", "place"] ["self", "strengths", "lengths", "ring"] (defScope s_Beads___init__) := ⟨rfl, rfl, rfl, by decide +kernel, rfl, by decide +kernel, by decide +kernel⟩
theorem sc__law_higher : FnScope ["cell", "strengths", "draws", "old", "new"] ["cell", "strengths"] (defScope s__law_higher) := ⟨rfl, rfl, rfl, by decide +kernel, rfl, by decide +kernel, by decide +kernel⟩
theorem sc__law_reach : FnScope ["round_flag", "sizes", "strengths", "place", "total", "step", "at"] ["round_flag", "sizes", "strengths", "place"] (defScope s__law_reach) := ⟨rfl, rfl, rfl, by decide +kernel, rfl, by decide +kernel, by decide +kernel⟩
theorem sc__law_all : FnScope ["round_flag", "sizes", "strengths", "place"] ["round_flag", "sizes", "strengths"] (defScope s__law_all) := ⟨rfl, rfl, rfl, by decide +kernel, rfl, by decide +kernel, by decide +kernel⟩
theorem sc_Beads___len__ : FnScope ["self"] ["self"] (defScope s_Beads___len__) := ⟨rfl, rfl, rfl, by decide +kernel, rfl, by decide +kernel, by decide +kernel⟩
theorem sc_check_place : FnScope ["place", "size"] ["place", "size"] (defScope s_check_place) := ⟨rfl, rfl, rfl, by decide +kernel, rfl, by decide +kernel, by decide +kernel⟩
theorem sc_run_of : FnScope ["beads", "place", "after"] ["beads", "place"] (defScope s_run_of) := ⟨rfl, rfl, rfl, by decide +kernel, rfl, by decide +kernel, by decide +kernel⟩
theorem sc_train_of : FnScope ["beads", "place", "strengths", "train", "at"] ["beads", "place"] (defScope s_train_of) := ⟨rfl, rfl, rfl, by decide +kernel, rfl, by decide +kernel, by decide +kernel⟩
theorem sc_reach_of : FnScope ["beads", "place", "train", "at"] ["beads", "place"] (defScope s_reach_of) := ⟨rfl, rfl, rfl, by decide +kernel, rfl, by decide +kernel, by decide +kernel⟩
theorem sc_reaches : FnScope ["beads", "place"] ["beads"] (defScope s_reaches) := ⟨rfl, rfl, rfl, by decide +kernel, rfl, by decide +kernel, by decide +kernel⟩
theorem sc__law_is_integer : FnScope ["actual"] ["actual"] (defScope s__law_is_integer) := ⟨rfl, rfl, rfl, by decide +kernel, rfl, by decide +kernel, by decide +kernel⟩
theorem sc__law_numbers : FnScope ["actual", "due", "as_tuple", "k"] ["actual", "due", "as_tuple"] (defScope s__law_numbers) := ⟨rfl, rfl, rfl, by decide +kernel, rfl, by decide +kernel, by decide +kernel⟩
theorem sc_Beads_with_strength : FnScope ["self", "place", "strength", "strengths"] ["self", "place", "strength"] (defScope s_Beads_with_strength) := ⟨rfl, rfl, rfl, by decide +kernel, rfl, by decide +kernel, by decide +kernel⟩
theorem sc__law_is_raised : FnScope ["beads", "round_flag", "sizes", "strengths", "place", "strength", "due", "told", "before", "higher", "after", "at"] ["beads", "round_flag", "sizes", "strengths", "place", "strength"] (defScope s__law_is_raised) := ⟨rfl, rfl, rfl, by decide +kernel, rfl, by decide +kernel, by decide +kernel⟩
theorem sc_Beads___mul__ : FnScope ["self", "times"] ["self", "times"] (defScope s_Beads___mul__) := ⟨rfl, rfl, rfl, by decide +kernel, rfl, by decide +kernel, by decide +kernel⟩
theorem sc__law_is_standing : FnScope ["actual", "round_flag", "sizes", "strengths"] ["actual", "round_flag", "sizes", "strengths"] (defScope s__law_is_standing) := ⟨rfl, rfl, rfl, by decide +kernel, rfl, by decide +kernel, by decide +kernel⟩
theorem sc_Beads_total : FnScope ["self"] ["self"] (defScope s_Beads_total) := ⟨rfl, rfl, rfl, by decide +kernel, rfl, by decide +kernel, by decide +kernel⟩
theorem sc_Beads_greatest : FnScope ["self"] ["self"] (defScope s_Beads_greatest) := ⟨rfl, rfl, rfl, by decide +kernel, rfl, by decide +kernel, by decide +kernel⟩
theorem sc__law_is_counted : FnScope ["beads", "sizes", "strengths", "total", "greatest"] ["beads", "sizes", "strengths"] (defScope s__law_is_counted) := ⟨rfl, rfl, rfl, by decide +kernel, rfl, by decide +kernel, by decide +kernel⟩
theorem sc__law_is_repeated : FnScope ["beads", "round_flag", "sizes", "strengths", "times", "copies", "due"] ["beads", "round_flag", "sizes", "strengths", "times"] (defScope s__law_is_repeated) := ⟨rfl, rfl, rfl, by decide +kernel, rfl, by decide +kernel, by decide +kernel⟩
theorem sc_Beads___add__ : FnScope ["self", "other"] ["self", "other"] (defScope s_Beads___add__) := ⟨rfl, rfl, rfl, by decide +kernel, rfl, by decide +kernel, by decide +kernel⟩
theorem sc__law_is_joined : FnScope ["beads", "other", "round_flag", "sizes", "strengths", "given", "joined", "told"] ["beads", "other", "round_flag", "sizes", "strengths", "given"] (defScope s__law_is_joined) := ⟨rfl, rfl, rfl, by decide +kernel, rfl, by decide +kernel, by decide +kernel⟩
theorem sc__law_sum : FnScope ["beads", "other"] ["beads", "other"] (defScope s__law_sum) := ⟨rfl, rfl, rfl, by decide +kernel, rfl, by decide +kernel, by decide +kernel⟩
theorem sc__law_is_unlike : FnScope ["beads", "other", "due", "e"] ["beads", "other", "due"] (defScope s__law_is_unlike) := ⟨rfl, rfl, rfl, by decide +kernel, rfl, by decide +kernel, by decide +kernel⟩
theorem sc_law : FnScope ["script", "shape", "many", "more", "round_flag", "sizes", "strengths", "passed", "beads", "others", "given", "other", "raised", "times"] ["script"] (defScope s_law) := ⟨rfl, rfl, rfl, by decide +kernel, rfl, by decide +kernel, by decide +kernel⟩
theorem sc_BadBeads___init__ : FnScope ["self", "place"] ["self", "place"] (defScope s_BadBeads___init__) := ⟨rfl, rfl, rfl, by decide +kernel, rfl, by decide +kernel, by decide +kernel⟩
theorem sc_BadPlace___init__ : FnScope ["self", "place"] ["self", "place"] (defScope s_BadPlace___init__) := ⟨rfl, rfl, rfl, by decide +kernel, rfl, by decide +kernel, by decide +kernel⟩
theorem sc_WrongKind___init__ : FnScope ["self", "ring"] ["self", "ring"] (defScope s_WrongKind___init__) := ⟨rfl, rfl, rfl, by decide +kernel, rfl, by decide +kernel, by decide +kernel⟩
theorem sc_Beads___iter__ : FnScope ["self"] ["self"] (defScope s_Beads___iter__) := ⟨rfl, rfl, rfl, by decide +kernel, rfl, by decide +kernel, by decide +kernel⟩
theorem fC_Beads_strengths (z : BV) : eBeads z = .obj "Beads" (fB z) ∧ (fB z).lookup ("strengths" : Str) = some ((eT eI) z.strengths) := ⟨rfl, by rfl⟩
theorem fC_Beads_lengths (z : BV) : eBeads z = .obj "Beads" (fB z) ∧ (fB z).lookup ("lengths" : Str) = some ((eT eI) z.lengths) := ⟨rfl, by rfl⟩
theorem fC_Beads_ring (z : BV) : eBeads z = .obj "Beads" (fB z) ∧ (fB z).lookup ("ring" : Str) = some (eB z.ring) := ⟨rfl, by rfl⟩
/-! ### what each def computes -/
def c__law_cell (script : (List Int)) (k : Int) : M (Out Unit Empty Int) := if (decide (k < (script.length : Int))) = true then mb (ixM script k) fun v1 => .ok (.rt v1)
    else .ok (.rt 0)
def f__law_cell (script : (List Int)) (k : Int) : M Int := fnV .no (c__law_cell script k)
def c__law_draws (cell : Int) (sizes : (List Int)) : M (Out Unit Empty (List Int)) := mb (rngM 0 (sizes.length : Int)) fun v82 => sq (forM (fun (k59 : Int) (s58 : Int × List Int) =>
    mb (mb (powM 10 18) fun v60 => (.ok (decide (v60 ≤ cell)))) fun v80 => if v80 = true then mb (mb (ixM sizes k59) fun v61 => modM s58.1 v61) fun v65 => mb (app s58.2 v65) fun draws62 =>
    mb (mb (ixM sizes k59) fun v63 => divM s58.1 v63) fun left64 =>
    .ok (.nx (left64, draws62))
    else mb (mb (mb (mb (mulM 7919 k59) fun v66 => (.ok (cell + v66))) fun v67 => (.ok (v67 + 13))) fun v68 => modM v68 2147483647) fun mixed69 =>
    mb (mb (mulM mixed69 (mixed69 + 48271)) fun v70 => modM v70 2147483629) fun mixed71 =>
    mb (mb (mb (mulM mixed71 (mixed71 + 69621)) fun v72 => mb (mulM 31 k59) fun v73 => (.ok (v72 + v73))) fun v74 => modM v74 2147483647) fun mixed75 =>
    mb (mb (divM mixed75 9) fun v76 => mb (ixM sizes k59) fun v77 => modM v76 v77) fun v79 => mb (app s58.2 v79) fun draws78 =>
    .ok (.nx (s58.1, draws78))) v82 (cell, ([] : List Int))) fun s81 =>
    .ok (.rt s81.2)
def f__law_draws (cell : Int) (sizes : (List Int)) : M (List Int) := fnV .no (c__law_draws cell sizes)
def c__law_lengths (cell : Int) (many : Int) : M (Out Unit Empty (List Int)) := mb (mb (f__law_draws cell [4]) fun v114 => ixM v114 0) fun flavour115 =>
    mb (mb (mb (powM 10 9) fun v116 => (.ok [1, 1, 4, v116])) fun v117 => ixM v117 flavour115) fun size118 =>
    mb (mb (mb (mb (mb (repM [size118] many) fun v119 => catM [4] v119) fun v120 => f__law_draws cell v120) fun v121 => (.ok (cut v121 (some 1) none))) fun v124 => mapC (fun draw122 => (.ok (1 + draw122))) v124) fun v125 => .ok (.rt v125)
def f__law_lengths (cell : Int) (many : Int) : M (List Int) := fnV .no (c__law_lengths cell many)
def c__law_strengths (cell : Int) (sizes : (List Int)) : M (Out Unit Empty (List Int)) := mb (mb (f__law_draws cell [6]) fun v147 => ixM v147 0) fun flavour148 =>
    if (decide (flavour148 = 3)) = true then mb (mb (mb (mb (mapC (fun size150 => (.ok (size150 + 1))) sizes) fun v152 => catM [6] v152) fun v153 => f__law_draws cell v153) fun v154 => (.ok (cut v154 (some 1) none))) fun v155 => .ok (.rt v155)
    else if (decide (flavour148 = 4)) = true then mb (mb (f__law_draws cell [6, sizes.sum + 3]) fun v156 => ixM v156 1) fun level157 =>
    mb (mapC (fun size158 => (.ok level157)) sizes) fun v160 => .ok (.rt v160)
    else mb (mb (mb (mb (powM 10 12) fun v161 => (.ok (v161 + 1))) fun v162 => (.ok [3, (sizes.length : Int) + 2, sizes.sum + 3, 0, 0, v162])) fun v163 => ixM v163 flavour148) fun most164 =>
    mb (mb (mb (mb (repM [most164] (sizes.length : Int)) fun v165 => catM [6] v165) fun v166 => f__law_draws cell v166) fun v167 => (.ok (cut v167 (some 1) none))) fun v168 => .ok (.rt v168)
def f__law_strengths (cell : Int) (sizes : (List Int)) : M (List Int) := fnV .no (c__law_strengths cell sizes)
def c_Beads___init__ (strengths : (List Int)) (lengths : (List Int)) (ring : Bool) : M (Out BV Empty Unit) := (fun (j188 : (List Int)) =>
    if ((decide (strengths = ([] : List Int))) || (!decide ((j188.length : Int) = (strengths.length : Int)))) = true then .er ⟨"BadBeads", [("place", eI (-1))]⟩
    else mb (rngM 0 (strengths.length : Int)) fun v197 => sq (forM (fun (place191 : Int) (s190 : Unit) =>
    mb (mb (mb (ixM strengths place191) fun v192 => (.ok (decide (v192 < 0)))) fun v194 => if v194 = true then .ok true else mb (ixM j188 place191) fun v193 => (.ok (decide (v193 < 1)))) fun v195 => if v195 = true then .er ⟨"BadBeads", [("place", eI place191)]⟩
    else .ok (.nx ())) v197 ()) fun s196 =>
    .ok (.nx ⟨strengths, j188, ring⟩)) lengths
def f_Beads___init__ (strengths : (List Int)) (lengths : (List Int)) (ring : Bool) : M BV := fnI (c_Beads___init__ strengths lengths ring)
def c__law_higher (cell : Int) (strengths : (List Int)) : M (Out Unit Empty (List Int)) := mb (mb (mb (mb (powM 10 12) fun v232 => (.ok (v232 + 1))) fun v233 => (.ok [(strengths.length : Int), 4, (strengths.length : Int), v233])) fun v234 => f__law_draws cell v234) fun draws235 =>
    mb (mb (ixM draws235 0) fun v236 => ixM strengths v236) fun old237 =>
    mb (mb (mb (mb (ixM draws235 2) fun v238 => ixM strengths v238) fun v241 => mb (mb (mb (ixM draws235 2) fun v239 => ixM strengths v239) fun v240 => (.ok (v240 + 1))) fun v242 => mb (ixM draws235 3) fun v243 => (.ok [old237 + 1, v241, v242, v243])) fun v244 => mb (ixM draws235 1) fun v245 => ixM v244 v245) fun new246 =>
    mb (mb (ixM draws235 0) fun v248 => mb (mb (powM 10 12) fun v247 => (.ok (min v247 (max old237 new246)))) fun v249 => (.ok [v248, v249])) fun v250 => .ok (.rt v250)
def f__law_higher (cell : Int) (strengths : (List Int)) : M (List Int) := fnV .no (c__law_higher cell strengths)
def c__law_reach (round_flag : Bool) (sizes : (List Int)) (strengths : (List Int)) (place : Int) : M (Out Unit Empty Int) := mb (ixM sizes place) fun total269 =>
    mb (rngM 1 (sizes.length : Int)) fun v282 => sq (forM (fun (step271 : Int) (s270 : Int) =>
    sq (if (decide ((sizes.length : Int) ≤ (place + step271))) = true then if (!round_flag) = true then .ok (.bk s270)
    else .ok (.nx ((place + step271) - (sizes.length : Int))) else .ok (.nx (place + step271))) fun (j275 : Int) =>
    mb (mb (ixM strengths j275) fun v276 => mb (ixM strengths place) fun v277 => (.ok (decide (v277 ≤ v276)))) fun v280 => if v280 = true then .ok (.bk s270)
    else mb (mb (ixM sizes j275) fun v278 => (.ok (s270 + v278))) fun total279 =>
    .ok (.nx total279)) v282 total269) fun s281 =>
    .ok (.rt s281)
def f__law_reach (round_flag : Bool) (sizes : (List Int)) (strengths : (List Int)) (place : Int) : M Int := fnV .no (c__law_reach round_flag sizes strengths place)
def c__law_all (round_flag : Bool) (sizes : (List Int)) (strengths : (List Int)) : M (Out Unit Empty (List Int)) := mb (mb (rngM 0 (sizes.length : Int)) fun v286 => mapC (fun place284 => f__law_reach round_flag sizes strengths place284) v286) fun v287 => .ok (.rt v287)
def f__law_all (round_flag : Bool) (sizes : (List Int)) (strengths : (List Int)) : M (List Int) := fnV .no (c__law_all round_flag sizes strengths)
def c_Beads___len__ (self : BV) : M (Out Unit Empty Int) := .ok (.rt (self.strengths.length : Int))
def f_Beads___len__ (self : BV) : M Int := fnV .no (c_Beads___len__ self)
def c_check_place (place : Int) (size : Int) : M (Out Unit Empty Unit) := if ((decide (place < 0)) || (decide (size ≤ place))) = true then .er ⟨"BadPlace", [("place", eI place)]⟩
    else .ok (.nx ())
def f_check_place (place : Int) (size : Int) : M Unit := fnV (.ok ()) (c_check_place place size)
def c_run_of (beads : BV) (place : Int) : M (Out Unit Empty (List Int)) := mb (mb (mb (f_Beads___len__ beads) lenO) fun v302 => rngL (place + 1) v302) fun after303 =>
    sq (if beads.ring = true then mb (mb (rngL 0 place) fun v306 => catM after303 v306) fun after307 =>
    .ok (.nx after307) else .ok (.nx after303)) fun (j308 : List Int) =>
    .ok (.rt j308)
def f_run_of (beads : BV) (place : Int) : M (List Int) := fnV .no (c_run_of beads place)
def c_train_of (beads : BV) (place : Int) : M (Out Unit Empty (List Int)) := mb (mb (mb (f_Beads___len__ beads) lenO) fun v330 => f_check_place place v330) fun v341 => mb (f_run_of beads place) fun v340 => sq (forM (fun (at334 : Int) (s333 : List Int) =>
    mb (mb (ixM beads.strengths at334) fun v335 => mb (ixM beads.strengths place) fun v336 => (.ok (decide (v336 ≤ v335)))) fun v338 => if v338 = true then .ok (.bk s333)
    else mb (app s333 at334) fun train337 =>
    .ok (.nx train337)) v340 ([] : List Int)) fun s339 =>
    .ok (.rt s339)
def f_train_of (beads : BV) (place : Int) : M (List Int) := fnV .no (c_train_of beads place)
def c_reach_of (beads : BV) (place : Int) : M (Out Unit Empty Int) := mb (f_train_of beads place) fun train348 =>
    mb (mb (ixM beads.lengths place) fun v352 => mb (mb (mapC (fun at349 => ixM beads.lengths at349) train348) fun v351 => (.ok v351.sum)) fun v353 => (.ok (v352 + v353))) fun v354 => .ok (.rt v354)
def f_reach_of (beads : BV) (place : Int) : M Int := fnV .no (c_reach_of beads place)
def c_reaches (beads : BV) : M (Out Unit Empty (List Int)) := mb (mb (mb (mb (f_Beads___len__ beads) lenO) fun v356 => rngM 0 v356) fun v359 => mapC (fun place357 => f_reach_of beads place357) v359) fun v360 => .ok (.rt v360)
def f_reaches (beads : BV) : M (List Int) := fnV .no (c_reaches beads)
def c__law_is_integer (actual : Int) : M (Out Unit Empty Bool) := .ok (.rt (true && (!false)))
def f__law_is_integer (actual : Int) : M Bool := fnV .no (c__law_is_integer actual)
def c__law_numbers (actual : (List Int)) (due : (List Int)) (as_tuple : Bool) : M (Out Unit Empty Bool) := if ((as_tuple && (!false)) || ((!as_tuple) && (!true))) = true then .ok (.rt false)
    else if (!decide ((actual.length : Int) = (due.length : Int))) = true then .ok (.rt false)
    else mb (rngM 0 (due.length : Int)) fun v381 => sq (forM (fun (k373 : Int) (s372 : Unit) =>
    mb (mb (mb (mb (ixM actual k373) fun v374 => f__law_is_integer v374) fun v375 => (.ok (!v375))) fun v378 => if v378 = true then .ok true else mb (ixM actual k373) fun v376 => mb (ixM due k373) fun v377 => (.ok (!decide (v376 = v377)))) fun v379 => if v379 = true then .ok (.rt false)
    else .ok (.nx ())) v381 ()) fun s380 =>
    .ok (.rt true)
def f__law_numbers (actual : (List Int)) (due : (List Int)) (as_tuple : Bool) : M Bool := fnV .no (c__law_numbers actual due as_tuple)
def c_Beads___init___v1 (strengths : (List Int)) (lengths : (List Int)) (ring : Bool) : M (Out BV Empty Unit) := (fun (j405 : (List Int)) =>
    if ((decide (strengths = ([] : List Int))) || (!decide ((j405.length : Int) = (strengths.length : Int)))) = true then .er ⟨"BadBeads", [("place", eI (-1))]⟩
    else mb (rngM 0 (strengths.length : Int)) fun v414 => sq (forM (fun (place408 : Int) (s407 : Unit) =>
    mb (mb (mb (ixM strengths place408) fun v409 => (.ok (decide (v409 < 0)))) fun v411 => if v411 = true then .ok true else mb (ixM j405 place408) fun v410 => (.ok (decide (v410 < 1)))) fun v412 => if v412 = true then .er ⟨"BadBeads", [("place", eI place408)]⟩
    else .ok (.nx ())) v414 ()) fun s413 =>
    .ok (.nx ⟨strengths, j405, ring⟩)) lengths
def f_Beads___init___v1 (strengths : (List Int)) (lengths : (List Int)) (ring : Bool) : M BV := fnI (c_Beads___init___v1 strengths lengths ring)
def c_Beads_with_strength (self : BV) (place : Int) (strength : Int) : M (Out Unit Empty BV) := mb (f_check_place place (self.strengths.length : Int)) fun v419 => if (decide (strength < 0)) = true then .er ⟨"BadBeads", [("place", eI place)]⟩
    else mb (setM self.strengths place strength) fun strengths417 =>
    mb (f_Beads___init___v1 strengths417 self.lengths self.ring) fun v418 => .ok (.rt v418)
def f_Beads_with_strength (self : BV) (place : Int) (strength : Int) : M BV := fnV .no (c_Beads_with_strength self place strength)
def c__law_is_raised (beads : BV) (round_flag : Bool) (sizes : (List Int)) (strengths : (List Int)) (place : Int) (strength : Int) : M (Out Unit Empty Bool) := mb (f__law_all round_flag sizes strengths) fun due437 =>
    mb (f_reaches beads) fun told438 =>
    mb (mb (f__law_numbers told438 due437 false) fun v439 => (.ok (!v439))) fun v461 => if v461 = true then .ok (.rt false)
    else mb (app told438 0) fun told441 =>
    mb (setM strengths place strength) fun higher443 =>
    mb (mb (f_Beads_with_strength beads place strength) fun v444 => f_reaches v444) fun after445 =>
    mb (mb (mb (f__law_all round_flag sizes higher443) fun v446 => f__law_numbers after445 v446 false) fun v447 => (.ok (!v447))) fun v460 => if v460 = true then .ok (.rt false)
    else mb (rngM 0 (sizes.length : Int)) fun v459 => sq (forM (fun (at449 : Int) (s448 : Unit) =>
    mb (mb (if (decide (at449 = place)) = true then mb (ixM after445 at449) fun v450 => mb (ixM told438 at449) fun v451 => (.ok (decide (v450 < v451))) else .ok false) fun v454 => if v454 = true then .ok true else if (!decide (at449 = place)) = true then mb (ixM after445 at449) fun v452 => mb (ixM told438 at449) fun v453 => (.ok (decide (v453 < v452))) else .ok false) fun v455 => if v455 = true then .ok (.rt false)
    else .ok (.nx ())) v459 ()) fun s456 =>
    mb (mb (f_reaches beads) fun v457 => f__law_numbers v457 due437 false) fun v458 => .ok (.rt v458)
def f__law_is_raised (beads : BV) (round_flag : Bool) (sizes : (List Int)) (strengths : (List Int)) (place : Int) (strength : Int) : M Bool := fnV .no (c__law_is_raised beads round_flag sizes strengths place strength)
def c_Beads___init___v2 (strengths : (List Int)) (lengths : (List Int)) (ring : Bool) : M (Out BV Empty Unit) := (fun (j486 : (List Int)) =>
    if ((decide (strengths = ([] : List Int))) || (!decide ((j486.length : Int) = (strengths.length : Int)))) = true then .er ⟨"BadBeads", [("place", eI (-1))]⟩
    else mb (rngM 0 (strengths.length : Int)) fun v495 => sq (forM (fun (place489 : Int) (s488 : Unit) =>
    mb (mb (mb (ixM strengths place489) fun v490 => (.ok (decide (v490 < 0)))) fun v492 => if v492 = true then .ok true else mb (ixM j486 place489) fun v491 => (.ok (decide (v491 < 1)))) fun v493 => if v493 = true then .er ⟨"BadBeads", [("place", eI place489)]⟩
    else .ok (.nx ())) v495 ()) fun s494 =>
    .ok (.nx ⟨strengths, j486, ring⟩)) lengths
def f_Beads___init___v2 (strengths : (List Int)) (lengths : (List Int)) (ring : Bool) : M BV := fnI (c_Beads___init___v2 strengths lengths ring)
def c_Beads___mul__ (self : BV) (times : Int) : M (Out Unit Empty BV) := mb (mb (repTM self.strengths times) fun v498 => mb (repTM self.lengths times) fun v499 => f_Beads___init___v2 v498 v499 self.ring) fun v500 => .ok (.rt v500)
def f_Beads___mul__ (self : BV) (times : Int) : M BV := fnV .no (c_Beads___mul__ self times)
def c__law_numbers_v1 (actual : (List Int)) (due : (List Int)) (as_tuple : Bool) : M (Out Unit Empty Bool) := if ((as_tuple && (!true)) || ((!as_tuple) && (!false))) = true then .ok (.rt false)
    else if (!decide ((actual.length : Int) = (due.length : Int))) = true then .ok (.rt false)
    else mb (rngM 0 (due.length : Int)) fun v521 => sq (forM (fun (k513 : Int) (s512 : Unit) =>
    mb (mb (mb (mb (ixM actual k513) fun v514 => f__law_is_integer v514) fun v515 => (.ok (!v515))) fun v518 => if v518 = true then .ok true else mb (ixM actual k513) fun v516 => mb (ixM due k513) fun v517 => (.ok (!decide (v516 = v517)))) fun v519 => if v519 = true then .ok (.rt false)
    else .ok (.nx ())) v521 ()) fun s520 =>
    .ok (.rt true)
def f__law_numbers_v1 (actual : (List Int)) (due : (List Int)) (as_tuple : Bool) : M Bool := fnV .no (c__law_numbers_v1 actual due as_tuple)
def c__law_is_standing (actual : BV) (round_flag : Bool) (sizes : (List Int)) (strengths : (List Int)) : M (Out Unit Empty Bool) := if ((!true) || ((!true) || (!decide (actual.ring = round_flag)))) = true then .ok (.rt false)
    else mb (mb (f__law_numbers_v1 actual.lengths sizes true) fun v523 => if v523 = true then f__law_numbers_v1 actual.strengths strengths true else .ok false) fun v524 => .ok (.rt v524)
def f__law_is_standing (actual : BV) (round_flag : Bool) (sizes : (List Int)) (strengths : (List Int)) : M Bool := fnV .no (c__law_is_standing actual round_flag sizes strengths)
def c_Beads_total (self : BV) : M (Out Unit Empty Int) := .ok (.rt self.lengths.sum)
def f_Beads_total (self : BV) : M Int := fnV .no (c_Beads_total self)
def c_Beads_greatest (self : BV) : M (Out Unit Empty Int) := mb (maxI self.strengths) fun v529 => .ok (.rt v529)
def f_Beads_greatest (self : BV) : M Int := fnV .no (c_Beads_greatest self)
def c__law_is_counted (beads : BV) (sizes : (List Int)) (strengths : (List Int)) : M (Out Unit Empty Bool) := mb (f_Beads_total beads) fun total541 =>
    mb (f_Beads_greatest beads) fun greatest542 =>
    mb (mb (mb (f__law_is_integer total541) fun v543 => (.ok (!v543))) fun v544 => (.ok (v544 || (!decide (total541 = sizes.sum))))) fun v553 => if v553 = true then .ok (.rt false)
    else mb (mb (mb (f__law_is_integer greatest542) fun v545 => (.ok (!v545))) fun v547 => if v547 = true then .ok true else mb (maxI strengths) fun v546 => (.ok (!decide (greatest542 = v546)))) fun v552 => if v552 = true then .ok (.rt false)
    else mb (mb (mb (mb (f_Beads___len__ beads) lenO) fun v548 => (.ok (decide (v548 = (sizes.length : Int))))) fun v550 => if v550 = true then mb (mb (f_Beads___len__ beads) fun n => lsO n beads.strengths) fun v549 => f__law_numbers v549 strengths false else .ok false) fun v551 => .ok (.rt v551)
def f__law_is_counted (beads : BV) (sizes : (List Int)) (strengths : (List Int)) : M Bool := fnV .no (c__law_is_counted beads sizes strengths)
def c__law_is_repeated (beads : BV) (round_flag : Bool) (sizes : (List Int)) (strengths : (List Int)) (times : Int) : M (Out Unit Empty Bool) := mb (f_Beads___mul__ beads times) fun copies571 =>
    mb (mb (mb (repM sizes times) fun v572 => mb (repM strengths times) fun v573 => f__law_is_standing copies571 round_flag v572 v573) fun v574 => (.ok (!v574))) fun v592 => if v592 = true then .ok (.rt false)
    else mb (mb (mb (repM sizes times) fun v575 => mb (repM strengths times) fun v576 => f__law_is_counted copies571 v575 v576) fun v577 => (.ok (!v577))) fun v591 => if v591 = true then .ok (.rt false)
    else sq (if round_flag = true then mb (mb (f__law_all true sizes strengths) fun v583 => repM v583 times) fun due584 =>
    .ok (.nx due584) else mb (mb (repM sizes times) fun v585 => mb (repM strengths times) fun v586 => f__law_all false v585 v586) fun due587 =>
    .ok (.nx due587)) fun (j588 : List Int) =>
    mb (mb (f_reaches copies571) fun v589 => f__law_numbers v589 j588 false) fun v590 => .ok (.rt v590)
def f__law_is_repeated (beads : BV) (round_flag : Bool) (sizes : (List Int)) (strengths : (List Int)) (times : Int) : M Bool := fnV .no (c__law_is_repeated beads round_flag sizes strengths times)
def c_Beads___add__ (self : BV) (other : BV) : M (Out Unit Empty BV) := if (!decide (self.ring = other.ring)) = true then .er ⟨"WrongKind", [("ring", eB other.ring)]⟩
    else mb (mb (catM self.strengths other.strengths) fun v596 => mb (catM self.lengths other.lengths) fun v597 => f_Beads___init___v2 v596 v597 self.ring) fun v598 => .ok (.rt v598)
def f_Beads___add__ (self : BV) (other : BV) : M BV := fnV .no (c_Beads___add__ self other)
def c__law_is_joined (beads : BV) (other : BV) (round_flag : Bool) (sizes : (List Int)) (strengths : (List Int)) (given : (List (List Int))) : M (Out Unit Empty Bool) := mb (f_Beads___add__ beads other) fun joined621 =>
    mb (mb (mb (mb (ixM given 0) fun v622 => catM sizes v622) fun v624 => mb (mb (ixM given 1) fun v623 => catM strengths v623) fun v625 => f__law_is_standing joined621 round_flag v624 v625) fun v626 => (.ok (!v626))) fun v643 => if v643 = true then .ok (.rt false)
    else mb (mb (mb (mb (ixM given 0) fun v627 => catM sizes v627) fun v629 => mb (mb (ixM given 1) fun v628 => catM strengths v628) fun v630 => f__law_is_counted joined621 v629 v630) fun v631 => (.ok (!v631))) fun v642 => if v642 = true then .ok (.rt false)
    else mb (f_reaches joined621) fun told632 =>
    mb (mb (mb (mb (mb (ixM given 0) fun v633 => catM sizes v633) fun v635 => mb (mb (ixM given 1) fun v634 => catM strengths v634) fun v636 => f__law_all round_flag v635 v636) fun v637 => f__law_numbers told632 v637 false) fun v638 => (.ok (!v638))) fun v641 => if v641 = true then .ok (.rt false)
    else mb (if round_flag = true then .ok true else mb (f_reaches other) fun v639 => f__law_numbers v639 (cut told632 (some (sizes.length : Int)) none) false) fun v640 => .ok (.rt v640)
def f__law_is_joined (beads : BV) (other : BV) (round_flag : Bool) (sizes : (List Int)) (strengths : (List Int)) (given : (List (List Int))) : M Bool := fnV .no (c__law_is_joined beads other round_flag sizes strengths given)
def c__law_sum (beads : BV) (other : BV) : M (Out Unit Empty BV) := mb (f_Beads___add__ beads other) fun v648 => .ok (.rt v648)
def f__law_sum (beads : BV) (other : BV) : M BV := fnV .no (c__law_sum beads other)
def c__law_is_unlike (beads : BV) (other : BV) (due : Bool) : M (Out Unit Empty Bool) := sq (tryM "WrongKind" (mb (f__law_sum beads other) fun v653 => .ok (.nx ())) (fun args => mb (mb (mb (fldB args "ring") fun v654 => (.ok true)) fun v656 => if v656 = true then mb (fldB args "ring") fun v655 => (.ok (decide (v655 = due))) else .ok false) fun v657 => .ok (.rt v657))) fun (_ : Unit) =>
    .ok (.rt false)
def f__law_is_unlike (beads : BV) (other : BV) (due : Bool) : M Bool := fnV .no (c__law_is_unlike beads other due)
def c_law (script : (List Int)) : M (Out Unit Empty Bool) := mb (mb (f__law_cell script 0) fun v683 => f__law_draws v683 [3, 8, 8, 4, 3, 8, 8, 4, 5040]) fun shape684 =>
    mb (mb (ixM shape684 2) fun v685 => (.ok (1 + v685))) fun many686 =>
    mb (mb (ixM shape684 1) fun v687 => (.ok (decide (v687 = 1)))) fun v764 => sq (if v764 = true then mb (mb (ixM shape684 3) fun v690 => (.ok (9 + v690))) fun many691 =>
    .ok (.nx many691) else .ok (.nx many686)) fun (j692 : Int) =>
    mb (mb (ixM shape684 6) fun v693 => (.ok (1 + v693))) fun more694 =>
    mb (mb (ixM shape684 5) fun v695 => (.ok (decide (v695 = 1)))) fun v763 => sq (if v763 = true then mb (mb (ixM shape684 7) fun v698 => (.ok (9 + v698))) fun more699 =>
    .ok (.nx more699) else .ok (.nx more694)) fun (j700 : Int) =>
    mb (mb (ixM shape684 0) fun v701 => (.ok (decide (v701 < 2)))) fun round_flag702 =>
    mb (mb (f__law_cell script 1) fun v703 => f__law_lengths v703 j692) fun sizes704 =>
    mb (mb (f__law_cell script 2) fun v705 => f__law_strengths v705 sizes704) fun strengths706 =>
    let passed707 := [strengths706, sizes704]
    mb (mb (ixM passed707 0) fun v708 => mb (ixM passed707 1) fun v709 => f_Beads___init__ v708 v709 round_flag702) fun beads710 =>
    mb (mb (f__law_cell script 3) fun v711 => f__law_lengths v711 j700) fun others712 =>
    mb (mb (mb (f__law_cell script 4) fun v714 => f__law_strengths v714 others712) fun v715 => (.ok [others712, v715])) fun given716 =>
    mb (mb (ixM given716 1) fun v720 => mb (ixM given716 0) fun v721 => mb (mb (mb (ixM shape684 4) fun v718 => (.ok (decide (0 < v718)))) fun v719 => (.ok (decide (round_flag702 = v719)))) fun v722 => f_Beads___init__ v720 v721 v722) fun other723 =>
    mb (mb (f__law_cell script 5) fun v724 => f__law_higher v724 strengths706) fun raised725 =>
    mb (mb (mb (ixM raised725 0) fun v726 => mb (ixM raised725 1) fun v727 => f__law_is_raised beads710 round_flag702 sizes704 strengths706 v726 v727) fun v728 => (.ok (!v728))) fun v762 => if v762 = true then .ok (.rt false)
    else mb (mb (mb (ixM shape684 8) fun v730 => mb (mb (divM 48 j692) fun v729 => (.ok (min 20 v729))) fun v731 => modM v730 v731) fun v732 => (.ok (1 + v732))) fun times733 =>
    mb (mb (f__law_is_repeated beads710 round_flag702 sizes704 strengths706 times733) fun v734 => (.ok (!v734))) fun v761 => if v761 = true then .ok (.rt false)
    else mb (mb (f__law_is_joined beads710 beads710 round_flag702 sizes704 strengths706 [sizes704, strengths706]) fun v735 => (.ok (!v735))) fun v760 => if v760 = true then .ok (.rt false)
    else mb (mb (ixM shape684 4) fun v736 => (.ok (decide (0 < v736)))) fun v759 => sq (if v759 = true then mb (mb (f__law_is_joined beads710 other723 round_flag702 sizes704 strengths706 given716) fun v743 => (.ok (!v743))) fun v744 => if v744 = true then .ok (.rt false)
    else .ok (.nx ()) else mb (mb (mb (f__law_is_unlike beads710 other723 (!round_flag702)) fun v745 => (.ok (!v745))) fun v747 => if v747 = true then .ok true else mb (f__law_is_unlike other723 beads710 round_flag702) fun v746 => (.ok (!v746))) fun v748 => if v748 = true then .ok (.rt false)
    else .ok (.nx ())) fun (j749 : Unit) =>
    mb (mb (mb (mb (mb (ixM shape684 4) fun v751 => (.ok (decide (0 < v751)))) fun v752 => (.ok (decide (round_flag702 = v752)))) fun v753 => mb (ixM given716 0) fun v754 => mb (ixM given716 1) fun v755 => f__law_is_standing other723 v753 v754 v755) fun v756 => (.ok (!v756))) fun v758 => if v758 = true then .ok (.rt false)
    else mb (if (decide (passed707 = [strengths706, sizes704])) = true then f__law_is_standing beads710 round_flag702 sizes704 strengths706 else .ok false) fun v757 => .ok (.rt v757)
def f_law (script : (List Int)) : M Bool := fnV .no (c_law script)
/-! ### what the top has written -/
structure Tx (K : PySem.W.Frag) (mg : Str → Option Value) (ca : Str → Addr) (fa : Nat → Addr) (fd : Nat → FuncData) : Prop where
  F__law_cell : Fun K "_law_cell" "_law_cell" s__law_cell (fa 0) (fd 0)
  b__law_cell : Binds K (fd 0) ["script", "k"] []
  g__law_cell : mg "_law_cell" = some (.ref (fa 0))
  k__law_cell : PySem.W.keepIn K (.ref (fa 0)) = true
  F__law_draws : Fun K "_law_draws" "_law_draws" s__law_draws (fa 1) (fd 1)
  b__law_draws : Binds K (fd 1) ["cell", "sizes"] []
  g__law_draws : mg "_law_draws" = some (.ref (fa 1))
  k__law_draws : PySem.W.keepIn K (.ref (fa 1)) = true
  F__law_lengths : Fun K "_law_lengths" "_law_lengths" s__law_lengths (fa 2) (fd 2)
  b__law_lengths : Binds K (fd 2) ["cell", "many"] []
  g__law_lengths : mg "_law_lengths" = some (.ref (fa 2))
  k__law_lengths : PySem.W.keepIn K (.ref (fa 2)) = true
  F__law_strengths : Fun K "_law_strengths" "_law_strengths" s__law_strengths (fa 3) (fd 3)
  b__law_strengths : Binds K (fd 3) ["cell", "sizes"] []
  g__law_strengths : mg "_law_strengths" = some (.ref (fa 3))
  k__law_strengths : PySem.W.keepIn K (.ref (fa 3)) = true
  F_Beads___init__ : FunD K "__init__" "Beads.__init__" (defArgs s_Beads___init__) (defBody s_Beads___init__) (defScope s_Beads___init__) [.non] [("ring", .bl true)] (fa 4) (fd 4)
  F__law_higher : Fun K "_law_higher" "_law_higher" s__law_higher (fa 5) (fd 5)
  b__law_higher : Binds K (fd 5) ["cell", "strengths"] []
  g__law_higher : mg "_law_higher" = some (.ref (fa 5))
  k__law_higher : PySem.W.keepIn K (.ref (fa 5)) = true
  F__law_reach : Fun K "_law_reach" "_law_reach" s__law_reach (fa 6) (fd 6)
  b__law_reach : Binds K (fd 6) ["round_flag", "sizes", "strengths", "place"] []
  g__law_reach : mg "_law_reach" = some (.ref (fa 6))
  k__law_reach : PySem.W.keepIn K (.ref (fa 6)) = true
  F__law_all : Fun K "_law_all" "_law_all" s__law_all (fa 7) (fd 7)
  b__law_all : Binds K (fd 7) ["round_flag", "sizes", "strengths"] []
  g__law_all : mg "_law_all" = some (.ref (fa 7))
  k__law_all : PySem.W.keepIn K (.ref (fa 7)) = true
  F_Beads___len__ : Fun K "__len__" "Beads.__len__" s_Beads___len__ (fa 8) (fd 8)
  b_Beads___len__ : Binds K (fd 8) ["self"] []
  F_check_place : Fun K "check_place" "check_place" s_check_place (fa 9) (fd 9)
  b_check_place : Binds K (fd 9) ["place", "size"] []
  g_check_place : mg "check_place" = some (.ref (fa 9))
  k_check_place : PySem.W.keepIn K (.ref (fa 9)) = true
  F_run_of : Fun K "run_of" "run_of" s_run_of (fa 10) (fd 10)
  b_run_of : Binds K (fd 10) ["beads", "place"] []
  g_run_of : mg "run_of" = some (.ref (fa 10))
  k_run_of : PySem.W.keepIn K (.ref (fa 10)) = true
  F_train_of : Fun K "train_of" "train_of" s_train_of (fa 11) (fd 11)
  b_train_of : Binds K (fd 11) ["beads", "place"] []
  g_train_of : mg "train_of" = some (.ref (fa 11))
  k_train_of : PySem.W.keepIn K (.ref (fa 11)) = true
  F_reach_of : Fun K "reach_of" "reach_of" s_reach_of (fa 12) (fd 12)
  b_reach_of : Binds K (fd 12) ["beads", "place"] []
  g_reach_of : mg "reach_of" = some (.ref (fa 12))
  k_reach_of : PySem.W.keepIn K (.ref (fa 12)) = true
  F_reaches : Fun K "reaches" "reaches" s_reaches (fa 13) (fd 13)
  b_reaches : Binds K (fd 13) ["beads"] []
  g_reaches : mg "reaches" = some (.ref (fa 13))
  k_reaches : PySem.W.keepIn K (.ref (fa 13)) = true
  F__law_is_integer : Fun K "_law_is_integer" "_law_is_integer" s__law_is_integer (fa 14) (fd 14)
  b__law_is_integer : Binds K (fd 14) ["actual"] []
  g__law_is_integer : mg "_law_is_integer" = some (.ref (fa 14))
  k__law_is_integer : PySem.W.keepIn K (.ref (fa 14)) = true
  F__law_numbers : Fun K "_law_numbers" "_law_numbers" s__law_numbers (fa 15) (fd 15)
  b__law_numbers : Binds K (fd 15) ["actual", "due", "as_tuple"] []
  g__law_numbers : mg "_law_numbers" = some (.ref (fa 15))
  k__law_numbers : PySem.W.keepIn K (.ref (fa 15)) = true
  F_Beads_with_strength : Fun K "with_strength" "Beads.with_strength" s_Beads_with_strength (fa 16) (fd 16)
  b_Beads_with_strength : Binds K (fd 16) ["self", "place", "strength"] []
  F__law_is_raised : Fun K "_law_is_raised" "_law_is_raised" s__law_is_raised (fa 17) (fd 17)
  b__law_is_raised : Binds K (fd 17) ["beads", "round_flag", "sizes", "strengths", "place", "strength"] []
  g__law_is_raised : mg "_law_is_raised" = some (.ref (fa 17))
  k__law_is_raised : PySem.W.keepIn K (.ref (fa 17)) = true
  F_Beads___mul__ : Fun K "__mul__" "Beads.__mul__" s_Beads___mul__ (fa 18) (fd 18)
  b_Beads___mul__ : Binds K (fd 18) ["self", "times"] []
  F__law_is_standing : Fun K "_law_is_standing" "_law_is_standing" s__law_is_standing (fa 19) (fd 19)
  b__law_is_standing : Binds K (fd 19) ["actual", "round_flag", "sizes", "strengths"] []
  g__law_is_standing : mg "_law_is_standing" = some (.ref (fa 19))
  k__law_is_standing : PySem.W.keepIn K (.ref (fa 19)) = true
  F_Beads_total : Fun K "total" "Beads.total" s_Beads_total (fa 20) (fd 20)
  b_Beads_total : Binds K (fd 20) ["self"] []
  F_Beads_greatest : Fun K "greatest" "Beads.greatest" s_Beads_greatest (fa 21) (fd 21)
  b_Beads_greatest : Binds K (fd 21) ["self"] []
  F__law_is_counted : Fun K "_law_is_counted" "_law_is_counted" s__law_is_counted (fa 22) (fd 22)
  b__law_is_counted : Binds K (fd 22) ["beads", "sizes", "strengths"] []
  g__law_is_counted : mg "_law_is_counted" = some (.ref (fa 22))
  k__law_is_counted : PySem.W.keepIn K (.ref (fa 22)) = true
  F__law_is_repeated : Fun K "_law_is_repeated" "_law_is_repeated" s__law_is_repeated (fa 23) (fd 23)
  b__law_is_repeated : Binds K (fd 23) ["beads", "round_flag", "sizes", "strengths", "times"] []
  g__law_is_repeated : mg "_law_is_repeated" = some (.ref (fa 23))
  k__law_is_repeated : PySem.W.keepIn K (.ref (fa 23)) = true
  F_Beads___add__ : Fun K "__add__" "Beads.__add__" s_Beads___add__ (fa 24) (fd 24)
  b_Beads___add__ : Binds K (fd 24) ["self", "other"] []
  F__law_is_joined : Fun K "_law_is_joined" "_law_is_joined" s__law_is_joined (fa 25) (fd 25)
  b__law_is_joined : Binds K (fd 25) ["beads", "other", "round_flag", "sizes", "strengths", "given"] []
  g__law_is_joined : mg "_law_is_joined" = some (.ref (fa 25))
  k__law_is_joined : PySem.W.keepIn K (.ref (fa 25)) = true
  F__law_sum : Fun K "_law_sum" "_law_sum" s__law_sum (fa 26) (fd 26)
  b__law_sum : Binds K (fd 26) ["beads", "other"] []
  g__law_sum : mg "_law_sum" = some (.ref (fa 26))
  k__law_sum : PySem.W.keepIn K (.ref (fa 26)) = true
  F__law_is_unlike : Fun K "_law_is_unlike" "_law_is_unlike" s__law_is_unlike (fa 27) (fd 27)
  b__law_is_unlike : Binds K (fd 27) ["beads", "other", "due"] []
  g__law_is_unlike : mg "_law_is_unlike" = some (.ref (fa 27))
  k__law_is_unlike : PySem.W.keepIn K (.ref (fa 27)) = true
  F_law : Fun K "law" "law" s_law (fa 28) (fd 28)
  b_law : Binds K (fd 28) ["script"] []
  F_BadBeads___init__ : Fun K "__init__" "BadBeads.__init__" s_BadBeads___init__ (fa 29) (fd 29)
  b_BadBeads___init__ : Binds K (fd 29) ["self", "place"] []
  F_BadPlace___init__ : Fun K "__init__" "BadPlace.__init__" s_BadPlace___init__ (fa 30) (fd 30)
  b_BadPlace___init__ : Binds K (fd 30) ["self", "place"] []
  F_WrongKind___init__ : Fun K "__init__" "WrongKind.__init__" s_WrongKind___init__ (fa 31) (fd 31)
  b_WrongKind___init__ : Binds K (fd 31) ["self", "ring"] []
  F_Beads___iter__ : Fun K "__iter__" "Beads.__iter__" s_Beads___iter__ (fa 32) (fd 32)
  b_Beads___iter__ : Binds K (fd 32) ["self"] []
  n_len : mg "len" = none
  n_int : mg "int" = none
  n_range : mg "range" = none
  n_sum : mg "sum" = none
  n_list : mg "list" = none
  n_tuple : mg "tuple" = none
  cl_Beads : Cls K (ca "Beads")
  na_Beads_strengths : NoAttr K (ca "Beads") "strengths"
  na_Beads_lengths : NoAttr K (ca "Beads") "lengths"
  na_Beads_ring : NoAttr K (ca "Beads") "ring"
  x_BadBeads : Xc K mg ca "BadBeads" (fa 29)
  xb_BadBeads : Binds K (fd 29) ["self", "place"] []
  xn_BadBeads_place : PySem.W.findIn K (.ref (ca "BadBeads")) "place" = some none
  mk_Beads : Mk K (ca "Beads") (fa 4)
  kb_Beads_3_ring : ∃ g, KBn K (fd 4) ["self", "strengths", "lengths", "ring"] 3 ["ring"] g (fun vs zs => vs ++ zs)
  n_min : mg "min" = none
  n_max : mg "max" = none
  m_Beads___len__ : Meth K (ca "Beads") "__len__" (fa 8)
  x_BadPlace : Xc K mg ca "BadPlace" (fa 30)
  xb_BadPlace : Binds K (fd 30) ["self", "place"] []
  xn_BadPlace_place : PySem.W.findIn K (.ref (ca "BadPlace")) "place" = some none
  n_isinstance : mg "isinstance" = none
  n_bool : mg "bool" = none
  m_Beads_with_strength : Meth K (ca "Beads") "with_strength" (fa 16)
  m_Beads___mul__ : Meth K (ca "Beads") "__mul__" (fa 18)
  sf_Beads : PySem.W.selfFirst K (ca "Beads") = true
  bm_Beads : MulI K (ca "Beads")
  is_Beads : IsC K (ca "Beads")
  m_Beads_total : Meth K (ca "Beads") "total" (fa 20)
  m_Beads_greatest : Meth K (ca "Beads") "greatest" (fa 21)
  m_Beads___iter__ : Meth K (ca "Beads") "__iter__" (fa 32)
  n_iter : mg "iter" = none
  x_WrongKind : Xc K mg ca "WrongKind" (fa 31)
  xb_WrongKind : Binds K (fd 31) ["self", "ring"] []
  xn_WrongKind_ring : PySem.W.findIn K (.ref (ca "WrongKind")) "ring" = some none
  m_Beads___add__ : Meth K (ca "Beads") "__add__" (fa 24)
  g_Beads : mg "Beads" = some (.ref (ca "Beads"))
section
variable {P : Program} {w : World} {K : PySem.W.Frag} {mg : Str → Option Value} {base : Heap} {ca : Str → Addr} {fa : Nat → Addr} {fd : Nat → FuncData}
theorem okI_BadBeads (T : Tx K mg ca fa fd) : FnOk P w K mg base (L2N.CX P w) 1 (fa 29) (fd 29) ["self", "place"] (spI1 K (ca "BadBeads") "place") :=
  init1_ok T.x_BadBeads T.F_BadBeads___init__ rfl sc_BadBeads___init__ T.xn_BadBeads_place (.inl rfl) (.inl rfl) (by decide) (by decide) (fun env e => by obtain ⟨⟩ := env; cases e; rfl)
theorem okI_BadPlace (T : Tx K mg ca fa fd) : FnOk P w K mg base (L2N.CX P w) 1 (fa 30) (fd 30) ["self", "place"] (spI1 K (ca "BadPlace") "place") :=
  init1_ok T.x_BadPlace T.F_BadPlace___init__ rfl sc_BadPlace___init__ T.xn_BadPlace_place (.inl rfl) (.inl rfl) (by decide) (by decide) (fun env e => by obtain ⟨⟩ := env; cases e; rfl)
theorem okI_WrongKind (T : Tx K mg ca fa fd) : FnOk P w K mg base (L2N.CX P w) 1 (fa 31) (fd 31) ["self", "ring"] (spI1 K (ca "WrongKind") "ring") :=
  init1_ok T.x_WrongKind T.F_WrongKind___init__ rfl sc_WrongKind___init__ T.xn_WrongKind_ring (.inl rfl) (.inl rfl) (by decide) (by decide) (fun env e => by obtain ⟨⟩ := env; cases e; rfl)
theorem ok_Beads___iter__ (T : Tx K mg ca fa fd) : FnOk P w K mg base (L2N.CX P w) 1 (fa 32) (fd 32) ["self"] (spIt K (ca "Beads") "strengths") :=
  iter_ok T.F_Beads___iter__ sc_Beads___iter__ T.cl_Beads T.na_Beads_strengths (fun cdv A outer s H E => pss_cons (ps_ret (pe_callB cr_iterT rfl T.n_iter (by decide +kernel) (pa_cons (pe_fld (pv 0) rfl) pa_nil) (by decide) (by decide))) pss_never)
theorem ok__law_cell (T : Tx K mg ca fa fd) : FnOk P w K mg base (L2N.CX P w) 1 (fa 0) (fd 0) ["script", "k"] (spE K ca (xC eScr (xC eI xN)) eI fun a => f__law_cell a.1 a.2.1) :=
  fn_E (d := .no) (fn_ok (k := 0) (n := 0) (Nx := fun _ _ => []) (L := fun _ (_ : Empty) => []) (R := fun r : Int => .fr (eI r)) (encA := (xC eScr (xC eI xN))) (code := fun a => c__law_cell a.1 a.2.1) T.F__law_cell sc__law_cell (fun _ => rfl) rfl fun cdv A outer s G H E a C => by
    obtain ⟨script, k, u0⟩ := a
    show DSs _ _ [.fr (eScr script), .fr (eI k)] _ _ _ _ _
    exact ss_eq (ss_ifX (t_cmp c_lt (b_e (e_var (z := k) (enc := eI) 1 rfl (pv 1))) (b_e (e_lenS T.n_len (pa_cons (e_var (z := script) (enc := eScr) 0 rfl (pv 0)) pa_nil))) rfl) (ss_ret (enc := eI) (g := fun z => z) (e_intI T.n_int (pa_cons (e_ixS (e_var (z := script) (enc := eScr) 0 rfl (pv 0)) (e_var (z := k) (enc := eI) 1 rfl (pv 1))) pa_nil)) Wk.nil (fun _ => rfl)) (nn_mb fun _ => nn_rt) (ss_ret (enc := eI) (g := fun z => z) e_int Wk.nil (fun _ => rfl)) Wk.nil) (by simp only [mbk, mba, sqk, sqa, c__law_cell])) (.inl rfl)
theorem ok__law_draws (T : Tx K mg ca fa fd) : FnOk P w K mg base (L2N.CX P w) 1 (fa 1) (fd 1) ["cell", "sizes"] (spO K ca (xC eI (xL eI xN)) eI fun a => f__law_draws a.1 a.2.1) :=
  fn_O (fn_ok (k := 0) (n := 4) (Nx := fun _ _ => []) (L := fun _ (_ : Empty) => []) (R := fun r : (List Int) => .ow (r.map eI)) (encA := (xC eI (xL eI xN))) (code := fun a => c__law_draws a.1 a.2.1) T.F__law_draws sc__law_draws (fun _ => rfl) rfl fun cdv A outer s G H E a C => by
    obtain ⟨cell, sizes, u0⟩ := a
    show DSs _ _ [.fr (eI cell), .ln (List.map eI sizes), .un, .un, .un, .un] _ _ _ _ _
    exact ss_eq (ss_asg (enc := eI) (i := 2) C.nd (e_intI T.n_int (pa_cons (e_var (z := cell) (enc := eI) 0 rfl (pv 0)) pa_nil)) (fun left56 => (ss_asgO (i := 3) C.nd (o_lst (enc := eI) (g := fun _ => []) a_nil (fun _ => rfl) (fun _ => small_line (Nat.zero_le _))) (fun draws57 => (ss_for (L := fun (s58 : Int × List Int) => [.fr (eI cell), .ln (List.map eI sizes), .fr (eI s58.1), .ow (List.map eI s58.2), .un, .un]) (left56, draws57) C (i_range1 rfl T.n_range (pa_cons (e_lenL (enc := eI) T.n_len (pa_cons (l_var (z := sizes) (enc := eI) 1 rfl (pv 1)) pa_nil)) pa_nil)) (g_name (enc := eI) (i := 4) C.nd) (wk_e (wk_e (wk_e (wk_e (wk_u (wk_u wk_n)))))) Wk.nil (fun k59 s58 => (ss_ifL (t_cmp c_ge (b_e (e_var (z := cell) (enc := eI) 0 rfl (pv 0))) (b_e (e_pow e_int e_int)) rfl) (ss_app (enc := eI) (xs := s58.2) 3 rfl (pv 3) (e_mod (e_intI T.n_int (pa_cons (e_var (z := s58.1) (enc := eI) 2 rfl (pv 2)) pa_nil)) (e_ixL (enc := eI) (l_var (z := sizes) (enc := eI) 1 rfl (pv 1)) (e_var (z := k59) (enc := eI) 4 rfl (pv 4)))) (fun draws62 => (ss_asg (enc := eI) (i := 2) C.nd (e_div (e_intI T.n_int (pa_cons (e_var (z := s58.1) (enc := eI) 2 rfl (pv 2)) pa_nil)) (e_ixL (enc := eI) (l_var (z := sizes) (enc := eI) 1 rfl (pv 1)) (e_var (z := k59) (enc := eI) 4 rfl (pv 4)))) (fun left64 => (ss_nil (b := (left64, draws62)) (wk_e (wk_e (wk_e (wk_e (wk_u (wk_u wk_n)))))))) Wk.nil)) Wk.nil (pe_bm PySem.F.plainAttrs_list PySem.F.slot_list_append PySem.F.type_list_append mt_append (pv 3) (pa_cons (e_mod (e_intI T.n_int (pa_cons (e_var (z := s58.1) (enc := eI) 2 rfl (pv 2)) pa_nil)) (e_ixL (enc := eI) (l_var (z := sizes) (enc := eI) 1 rfl (pv 1)) (e_var (z := k59) (enc := eI) 4 rfl (pv 4)))) pa_nil))) (ss_asg (enc := eI) (i := 5) C.nd (e_mod (e_intI T.n_int (pa_cons (e_add (e_add (e_var (z := cell) (enc := eI) 0 rfl (pv 0)) (e_mul e_int (e_var (z := k59) (enc := eI) 4 rfl (pv 4)))) e_int) pa_nil)) e_int) (fun mixed69 => (ss_asg (enc := eI) (i := 5) C.nd (e_mod (e_intI T.n_int (pa_cons (e_mul (e_var (z := mixed69) (enc := eI) 5 rfl (pv 5)) (e_add (e_var (z := mixed69) (enc := eI) 5 rfl (pv 5)) e_int)) pa_nil)) e_int) (fun mixed71 => (ss_asg (enc := eI) (i := 5) C.nd (e_mod (e_intI T.n_int (pa_cons (e_add (e_mul (e_var (z := mixed71) (enc := eI) 5 rfl (pv 5)) (e_add (e_var (z := mixed71) (enc := eI) 5 rfl (pv 5)) e_int)) (e_mul e_int (e_var (z := k59) (enc := eI) 4 rfl (pv 4)))) pa_nil)) e_int) (fun mixed75 => (ss_app (enc := eI) (xs := s58.2) 3 rfl (pv 3) (e_mod (e_intI T.n_int (pa_cons (e_div (e_var (z := mixed75) (enc := eI) 5 rfl (pv 5)) e_int) pa_nil)) (e_ixL (enc := eI) (l_var (z := sizes) (enc := eI) 1 rfl (pv 1)) (e_var (z := k59) (enc := eI) 4 rfl (pv 4)))) (fun draws78 => (ss_nil (b := (s58.1, draws78)) (wk_e (wk_e (wk_e (wk_e (wk_u (wk_u wk_n)))))))) Wk.nil (pe_bm PySem.F.plainAttrs_list PySem.F.slot_list_append PySem.F.type_list_append mt_append (pv 3) (pa_cons (e_mod (e_intI T.n_int (pa_cons (e_div (e_var (z := mixed75) (enc := eI) 5 rfl (pv 5)) e_int) pa_nil)) (e_ixL (enc := eI) (l_var (z := sizes) (enc := eI) 1 rfl (pv 1)) (e_var (z := k59) (enc := eI) 4 rfl (pv 4)))) pa_nil)))) Wk.nil)) Wk.nil)) Wk.nil) Wk.nil)) (fun s81 => (ss_retV (r := s81.2) 3 rfl rfl (pv 3))))) Wk.nil)) Wk.nil) (by simp only [mbk, mba, sqk, sqa, c__law_draws]))
theorem ok__law_lengths (T : Tx K mg ca fa fd) : FnOk P w K mg base (L2N.CX P w) 2 (fa 2) (fd 2) ["cell", "many"] (spO K ca (xC eI (xC eI xN)) eI fun a => f__law_lengths a.1 a.2.1) :=
  fn_O (fn_ok (k := 1) (n := 3) (Nx := fun _ _ => []) (L := fun _ (_ : Empty) => []) (R := fun r : (List Int) => .ow (r.map eI)) (encA := (xC eI (xC eI xN))) (code := fun a => c__law_lengths a.1 a.2.1) T.F__law_lengths sc__law_lengths (fun _ => rfl) rfl fun cdv A outer s G H E a C => by
    obtain ⟨cell, many, u0⟩ := a
    show DSs _ _ [.fr (eI cell), .fr (eI many), .un, .un, .un] _ _ _ _ _
    exact ss_eq (ss_asg (enc := eI) (i := 2) C.nd (e_ixL (enc := eI) (b_e (e_o (o_call C (by decide) (ok__law_draws T) T.g__law_draws T.k__law_draws T.b__law_draws (x_cons (e_var (z := cell) (enc := eI) 0 rfl (pv 0)) (x_consL (b_e (e_o (o_lst (enc := eI) (g := fun z : Int × Unit => [z.1]) (a_cons e_int a_nil) (fun _ => rfl) (fun _ => small_line (by show 1 ≤ 1000; decide))))) x_nil))))) e_int) (fun flavour115 => (ss_asg (enc := eI) (i := 3) C.nd (e_ixL (enc := eI) (b_e (e_o (o_lst (enc := eI) (g := fun z : Int × Int × Int × Int × Unit => [z.1, z.2.1, z.2.2.1, z.2.2.2.1]) (a_cons e_int (a_cons e_int (a_cons e_int (a_cons (e_pow e_int e_int) a_nil)))) (fun _ => rfl) (fun _ => small_line (by show 4 ≤ 1000; decide))))) (e_var (z := flavour115) (enc := eI) 2 rfl (pv 2))) (fun size118 => (ss_retO (enc := eI) (g := fun z => z) (o_lc0 (ow := [("draw", 4)]) (enb := eI) C (i_list (enc := eI) (e_o (o_cutL (enc := eI) (b_e (e_o (o_call C (by decide) (ok__law_draws T) T.g__law_draws T.k__law_draws T.b__law_draws (x_cons (e_var (z := cell) (enc := eI) 0 rfl (pv 0)) (x_consL (b_e (e_o (o_cat (enc := eI) (b_e (e_o (o_lst (enc := eI) (g := fun z : Int × Unit => [z.1]) (a_cons e_int a_nil) (fun _ => rfl) (fun _ => small_line (by show 1 ≤ 1000; decide))))) (b_e (e_o (o_rep (enc := eI) (b_e (e_o (o_lst (enc := eI) (g := fun z : Int × Unit => [z.1]) (a_cons (e_var (z := size118) (enc := eI) 3 rfl (pv 3)) a_nil) (fun _ => rfl) (fun _ => small_line (by show 1 ≤ 1000; decide))))) (e_var (z := many) (enc := eI) 1 rfl (pv 1)))))))) x_nil))))) (p_some e_int) p_none))) (blkOk_by (N := ["cell", "many", "flavour", "size", "draw"]) (sc := defScope s__law_lengths) (by decide +kernel)) (fun _ _ _ _ _ => pg_name (i := 4) sc__law_lengths.nd rfl (Or.inl rfl)) (gs_name (enc := eI) (i := 4) (by decide)) (fun _ _ _ _ _ C123 draw122 => (e_add e_int (e_var (z := draw122) (enc := eI) 4 rfl (pv 4))))) Wk.nil (fun _ => rfl))) Wk.nil)) Wk.nil) (by simp only [mbk, mba, sqk, sqa, c__law_lengths]))
theorem ok__law_strengths (T : Tx K mg ca fa fd) : FnOk P w K mg base (L2N.CX P w) 2 (fa 3) (fd 3) ["cell", "sizes"] (spO K ca (xC eI (xL eI xN)) eI fun a => f__law_strengths a.1 a.2.1) :=
  fn_O (fn_ok (k := 1) (n := 5) (Nx := fun _ _ => []) (L := fun _ (_ : Empty) => []) (R := fun r : (List Int) => .ow (r.map eI)) (encA := (xC eI (xL eI xN))) (code := fun a => c__law_strengths a.1 a.2.1) T.F__law_strengths sc__law_strengths (fun _ => rfl) rfl fun cdv A outer s G H E a C => by
    obtain ⟨cell, sizes, u0⟩ := a
    show DSs _ _ [.fr (eI cell), .ln (List.map eI sizes), .un, .un, .un, .un, .un] _ _ _ _ _
    exact ss_eq (ss_asg (enc := eI) (i := 2) C.nd (e_ixL (enc := eI) (b_e (e_o (o_call C (by decide) (ok__law_draws T) T.g__law_draws T.k__law_draws T.b__law_draws (x_cons (e_var (z := cell) (enc := eI) 0 rfl (pv 0)) (x_consL (b_e (e_o (o_lst (enc := eI) (g := fun z : Int × Unit => [z.1]) (a_cons e_int a_nil) (fun _ => rfl) (fun _ => small_line (by show 1 ≤ 1000; decide))))) x_nil))))) e_int) (fun flavour148 => (ss_asg (enc := eI) (i := 3) C.nd (e_sum C.calm T.n_sum (pa_cons (l_var (z := sizes) (enc := eI) 1 rfl (pv 1)) pa_nil)) (fun total149 => (ss_ifX (t_cmp c_eq (b_e (e_var (z := flavour148) (enc := eI) 2 rfl (pv 2))) (b_e e_int) rfl) (ss_retO (enc := eI) (g := fun z => z) (o_cutL (enc := eI) (b_e (e_o (o_call C (by decide) (ok__law_draws T) T.g__law_draws T.k__law_draws T.b__law_draws (x_cons (e_var (z := cell) (enc := eI) 0 rfl (pv 0)) (x_consL (b_e (e_o (o_cat (enc := eI) (b_e (e_o (o_lst (enc := eI) (g := fun z : Int × Unit => [z.1]) (a_cons e_int a_nil) (fun _ => rfl) (fun _ => small_line (by show 1 ≤ 1000; decide))))) (b_e (e_o (o_lc0 (ow := [("size", 6)]) (enb := eI) C (i_ln (enc := eI) (z := sizes) 1 rfl (pv 1)) (blkOk_by (N := ["cell", "sizes", "flavour", "total", "level", "most", "size"]) (sc := defScope s__law_strengths) (by decide +kernel)) (fun _ _ _ _ _ => pg_name (i := 6) sc__law_strengths.nd rfl (Or.inl rfl)) (gs_name (enc := eI) (i := 6) (by decide)) (fun _ _ _ _ _ C151 size150 => (e_add (e_var (z := size150) (enc := eI) 6 rfl (pv 6)) e_int)))))))) x_nil))))) (p_some e_int) p_none) Wk.nil (fun _ => rfl)) (nn_mb fun _ => nn_rt) (ss_ifX (t_cmp c_eq (b_e (e_var (z := flavour148) (enc := eI) 2 rfl (pv 2))) (b_e e_int) rfl) (ss_asg (enc := eI) (i := 4) C.nd (e_ixL (enc := eI) (b_e (e_o (o_call C (by decide) (ok__law_draws T) T.g__law_draws T.k__law_draws T.b__law_draws (x_cons (e_var (z := cell) (enc := eI) 0 rfl (pv 0)) (x_consL (b_e (e_o (o_lst (enc := eI) (g := fun z : Int × Int × Unit => [z.1, z.2.1]) (a_cons e_int (a_cons (e_add (e_var (z := total149) (enc := eI) 3 rfl (pv 3)) e_int) a_nil)) (fun _ => rfl) (fun _ => small_line (by show 2 ≤ 1000; decide))))) x_nil))))) e_int) (fun level157 => (ss_retO (enc := eI) (g := fun z => z) (o_lc0 (ow := [("size", 6)]) (enb := eI) C (i_ln (enc := eI) (z := sizes) 1 rfl (pv 1)) (blkOk_by (N := ["cell", "sizes", "flavour", "total", "level", "most", "size"]) (sc := defScope s__law_strengths) (by decide +kernel)) (fun _ _ _ _ _ => pg_name (i := 6) sc__law_strengths.nd rfl (Or.inl rfl)) (gs_name (enc := eI) (i := 6) (by decide)) (fun _ _ _ _ _ C159 size158 => (e_var (z := level157) (enc := eI) 4 rfl (pv 4)))) Wk.nil (fun _ => rfl))) Wk.nil) (nn_mb fun level157 => (nn_mb fun _ => nn_rt)) (ss_asg (enc := eI) (i := 5) C.nd (e_ixL (enc := eI) (b_e (e_o (o_lst (enc := eI) (g := fun z : Int × Int × Int × Int × Int × Int × Unit => [z.1, z.2.1, z.2.2.1, z.2.2.2.1, z.2.2.2.2.1, z.2.2.2.2.2.1]) (a_cons e_int (a_cons (e_add (e_lenL (enc := eI) T.n_len (pa_cons (l_var (z := sizes) (enc := eI) 1 rfl (pv 1)) pa_nil)) e_int) (a_cons (e_add (e_var (z := total149) (enc := eI) 3 rfl (pv 3)) e_int) (a_cons e_int (a_cons e_int (a_cons (e_add (e_pow e_int e_int) e_int) a_nil)))))) (fun _ => rfl) (fun _ => small_line (by show 6 ≤ 1000; decide))))) (e_var (z := flavour148) (enc := eI) 2 rfl (pv 2))) (fun most164 => (ss_retO (enc := eI) (g := fun z => z) (o_cutL (enc := eI) (b_e (e_o (o_call C (by decide) (ok__law_draws T) T.g__law_draws T.k__law_draws T.b__law_draws (x_cons (e_var (z := cell) (enc := eI) 0 rfl (pv 0)) (x_consL (b_e (e_o (o_cat (enc := eI) (b_e (e_o (o_lst (enc := eI) (g := fun z : Int × Unit => [z.1]) (a_cons e_int a_nil) (fun _ => rfl) (fun _ => small_line (by show 1 ≤ 1000; decide))))) (b_e (e_o (o_rep (enc := eI) (b_e (e_o (o_lst (enc := eI) (g := fun z : Int × Unit => [z.1]) (a_cons (e_var (z := most164) (enc := eI) 5 rfl (pv 5)) a_nil) (fun _ => rfl) (fun _ => small_line (by show 1 ≤ 1000; decide))))) (e_lenL (enc := eI) T.n_len (pa_cons (l_var (z := sizes) (enc := eI) 1 rfl (pv 1)) pa_nil)))))))) x_nil))))) (p_some e_int) p_none) Wk.nil (fun _ => rfl))) Wk.nil) Wk.nil) Wk.nil)) Wk.nil)) Wk.nil) (by simp only [mbk, mba, sqk, sqa, c__law_strengths]))
theorem ok_Beads___init__ (T : Tx K mg ca fa fd) : FnOk P w K mg base (L2N.CX P w) 4 (fa 4) (fd 4) ["self", "strengths", "lengths", "ring"] (spN K ca "Beads" (xL eI (xL eI (xC eB xN))) fun a => mb (f_Beads___init__ a.1 a.2.1 a.2.2.1) fun r => .ok (fB r)) :=
  fn_I (fn_init (k := 3) (n := 1) (Nx := fun p _ b => [.nw p "Beads" (fB b)]) (L := fun _ (_ : Empty) => []) (R := fun _ : Unit => .fr .non) (Fl := fB) (encA := (xL eI (xL eI (xC eB xN)))) (code := fun a => c_Beads___init__ a.1 a.2.1 a.2.2.1) T.F_Beads___init__ sc_Beads___init__ (fun _ => rfl) rfl (fun _ _ _ => rfl) fun cdv A outer s G H E a p C => by
    obtain ⟨strengths, lengths, ring, u0⟩ := a
    show DSs _ _ [.nw p "Beads" [], .ln (List.map eI strengths), .ln (List.map eI lengths), .fr (eB ring), .un] _ _ _ _ _
    exact ss_eq (ss_sfld (enc := (eT eI)) 0 rfl (pv 0) T.cl_Beads T.na_Beads_strengths (by show (0 : Nat) < 1000; decide) (e_tuple (enc := eI) T.n_tuple (pa_cons (l_var (z := strengths) (enc := eI) 1 rfl (pv 1)) pa_nil)) (fun strengths185 => (ss_ifJF (N := fun (j188 : (List Int)) => [.nw p "Beads" [("strengths", (eT eI) strengths185), ("lengths", (eT eI) j188)], .ln (List.map eI strengths), .ln (List.map eI lengths), .fr (eB ring), .un]) (t_cmp (c_isF (fun _ h => by cases h)) (l_var (z := lengths) (enc := eI) 2 rfl (pv 2)) (b_e e_non) rfl) (ss_sfld (enc := (eT eI)) 0 rfl (pv 0) T.cl_Beads T.na_Beads_lengths (by show (1 : Nat) < 1000; decide) (e_tuple (enc := eI) T.n_tuple (pa_cons (l_var (z := lengths) (enc := eI) 2 rfl (pv 2)) pa_nil)) (fun lengths187 => (ss_nil (b := lengths187) (wk_e (wk_e (wk_e (wk_e (wk_u wk_n))))))) Wk.nil) (fun j188 => (ss_sfld (enc := eB) 0 rfl (pv 0) T.cl_Beads T.na_Beads_ring (by show (2 : Nat) < 1000; decide) (e_var (z := ring) (enc := eB) 3 rfl (pv 3)) (fun ring189 => (ss_ifX (t_w (w_orP (t_cmp (c_eqD (pd_tup pd_int) (by decide) C.room.units) (b_e (e_sfld (z := strengths185) (enc := (eT eI)) 0 rfl (pv 0) T.cl_Beads T.na_Beads_strengths (by rfl))) (b_e (e_tupH (enc := eI) (g := fun _ => []) a_nil (fun _ => rfl) (fun _ => small_line (Nat.zero_le _)))) rfl) (w_or1 (t_cmp c_ne (b_e (e_lenT (enc := eI) T.n_len (pa_cons (e_sfld (z := j188) (enc := (eT eI)) 0 rfl (pv 0) T.cl_Beads T.na_Beads_lengths (by rfl)) pa_nil))) (b_e (e_lenT (enc := eI) T.n_len (pa_cons (e_sfld (z := strengths185) (enc := (eT eI)) 0 rfl (pv 0) T.cl_Beads T.na_Beads_strengths (by rfl)) pa_nil))) rfl)) rfl)) (ss_raise1 (enc := eI) C (by decide) T.x_BadBeads (okI_BadBeads T) T.xb_BadBeads (pa_cons (e_neg e_int) pa_nil) Wk.nil) (nn_mb fun _ => nn_er) (ss_for (L := fun (s190 : Unit) => [.nw p "Beads" [("strengths", (eT eI) strengths185), ("lengths", (eT eI) j188), ("ring", eB ring189)], .ln (List.map eI strengths), .ln (List.map eI lengths), .fr (eB ring), .un]) () C (i_range1 rfl T.n_range (pa_cons (e_lenT (enc := eI) T.n_len (pa_cons (e_sfld (z := strengths185) (enc := (eT eI)) 0 rfl (pv 0) T.cl_Beads T.na_Beads_strengths (by rfl)) pa_nil)) pa_nil)) (g_name (enc := eI) (i := 4) C.nd) (wk_e (wk_e (wk_e (wk_e (wk_u wk_n))))) Wk.nil (fun place191 s190 => (ss_ifX (t_w (w_or (t_cmp c_lt (b_e (e_ixT (enc := eI) (e_sfld (z := strengths185) (enc := (eT eI)) 0 rfl (pv 0) T.cl_Beads T.na_Beads_strengths (by rfl)) (e_var (z := place191) (enc := eI) 4 rfl (pv 4)))) (b_e e_int) rfl) (w_or1 (t_cmp c_lt (b_e (e_ixT (enc := eI) (e_sfld (z := j188) (enc := (eT eI)) 0 rfl (pv 0) T.cl_Beads T.na_Beads_lengths (by rfl)) (e_var (z := place191) (enc := eI) 4 rfl (pv 4)))) (b_e e_int) rfl)))) (ss_raise1 (enc := eI) C (by decide) T.x_BadBeads (okI_BadBeads T) T.xb_BadBeads (pa_cons (e_var (z := place191) (enc := eI) 4 rfl (pv 4)) pa_nil) Wk.nil) (nn_mb fun _ => nn_er) (ss_nil (b := ()) (wk_e (wk_e (wk_e (wk_e (wk_u wk_n)))))) Wk.nil)) (fun s196 => (ss_nil (b := (⟨strengths185, j188, ring189⟩ : BV)) (wk_e wk_n)))) Wk.nil)) Wk.nil)) Wk.nil)) Wk.nil) (by simp only [mbk, mba, sqk, sqa, c_Beads___init__])) fun _ => rfl
theorem ok__law_higher (T : Tx K mg ca fa fd) : FnOk P w K mg base (L2N.CX P w) 2 (fa 5) (fd 5) ["cell", "strengths"] (spO K ca (xC eI (xL eI xN)) eI fun a => f__law_higher a.1 a.2.1) :=
  fn_O (fn_ok (k := 1) (n := 3) (Nx := fun _ _ => []) (L := fun _ (_ : Empty) => []) (R := fun r : (List Int) => .ow (r.map eI)) (encA := (xC eI (xL eI xN))) (code := fun a => c__law_higher a.1 a.2.1) T.F__law_higher sc__law_higher (fun _ => rfl) rfl fun cdv A outer s G H E a C => by
    obtain ⟨cell, strengths, u0⟩ := a
    show DSs _ _ [.fr (eI cell), .ln (List.map eI strengths), .un, .un, .un] _ _ _ _ _
    exact ss_eq (ss_asgO (i := 2) C.nd (o_call C (by decide) (ok__law_draws T) T.g__law_draws T.k__law_draws T.b__law_draws (x_cons (e_var (z := cell) (enc := eI) 0 rfl (pv 0)) (x_consL (b_e (e_o (o_lst (enc := eI) (g := fun z : Int × Int × Int × Int × Unit => [z.1, z.2.1, z.2.2.1, z.2.2.2.1]) (a_cons (e_lenL (enc := eI) T.n_len (pa_cons (l_var (z := strengths) (enc := eI) 1 rfl (pv 1)) pa_nil)) (a_cons e_int (a_cons (e_lenL (enc := eI) T.n_len (pa_cons (l_var (z := strengths) (enc := eI) 1 rfl (pv 1)) pa_nil)) (a_cons (e_add (e_pow e_int e_int) e_int) a_nil)))) (fun _ => rfl) (fun _ => small_line (by show 4 ≤ 1000; decide))))) x_nil))) (fun draws235 => (ss_asg (enc := eI) (i := 3) C.nd (e_ixL (enc := eI) (l_var (z := strengths) (enc := eI) 1 rfl (pv 1)) (e_ixL (enc := eI) (b_var (z := draws235) (enc := eI) 2 rfl (pv 2)) e_int)) (fun old237 => (ss_asg (enc := eI) (i := 4) C.nd (e_ixL (enc := eI) (b_e (e_o (o_lst (enc := eI) (g := fun z : Int × Int × Int × Int × Unit => [z.1, z.2.1, z.2.2.1, z.2.2.2.1]) (a_cons (e_add (e_var (z := old237) (enc := eI) 3 rfl (pv 3)) e_int) (a_cons (e_ixL (enc := eI) (l_var (z := strengths) (enc := eI) 1 rfl (pv 1)) (e_ixL (enc := eI) (b_var (z := draws235) (enc := eI) 2 rfl (pv 2)) e_int)) (a_cons (e_add (e_ixL (enc := eI) (l_var (z := strengths) (enc := eI) 1 rfl (pv 1)) (e_ixL (enc := eI) (b_var (z := draws235) (enc := eI) 2 rfl (pv 2)) e_int)) e_int) (a_cons (e_ixL (enc := eI) (b_var (z := draws235) (enc := eI) 2 rfl (pv 2)) e_int) a_nil)))) (fun _ => rfl) (fun _ => small_line (by show 4 ≤ 1000; decide))))) (e_ixL (enc := eI) (b_var (z := draws235) (enc := eI) 2 rfl (pv 2)) e_int)) (fun new246 => (ss_retO (enc := eI) (g := fun z => z) (o_lst (enc := eI) (g := fun z : Int × Int × Unit => [z.1, z.2.1]) (a_cons (e_ixL (enc := eI) (b_var (z := draws235) (enc := eI) 2 rfl (pv 2)) e_int) (a_cons (e_min2 C.calm T.n_min (pa_cons (e_pow e_int e_int) (pa_cons (e_max2 C.calm T.n_max (pa_cons (e_var (z := old237) (enc := eI) 3 rfl (pv 3)) (pa_cons (e_var (z := new246) (enc := eI) 4 rfl (pv 4)) pa_nil))) pa_nil))) a_nil)) (fun _ => rfl) (fun _ => small_line (by show 2 ≤ 1000; decide))) Wk.nil (fun _ => rfl))) Wk.nil)) Wk.nil)) Wk.nil) (by simp only [mbk, mba, sqk, sqa, c__law_higher]))
theorem ok__law_reach (T : Tx K mg ca fa fd) : FnOk P w K mg base (L2N.CX P w) 1 (fa 6) (fd 6) ["round_flag", "sizes", "strengths", "place"] (spE K ca (xC eB (xL eI (xL eI (xC eI xN)))) eI fun a => f__law_reach a.1 a.2.1 a.2.2.1 a.2.2.2.1) :=
  fn_E (d := .no) (fn_ok (k := 0) (n := 3) (Nx := fun _ _ => []) (L := fun _ (_ : Empty) => []) (R := fun r : Int => .fr (eI r)) (encA := (xC eB (xL eI (xL eI (xC eI xN))))) (code := fun a => c__law_reach a.1 a.2.1 a.2.2.1 a.2.2.2.1) T.F__law_reach sc__law_reach (fun _ => rfl) rfl fun cdv A outer s G H E a C => by
    obtain ⟨round_flag, sizes, strengths, place, u0⟩ := a
    show DSs _ _ [.fr (eB round_flag), .ln (List.map eI sizes), .ln (List.map eI strengths), .fr (eI place), .un, .un, .un] _ _ _ _ _
    exact ss_eq (ss_asg (enc := eI) (i := 4) C.nd (e_ixL (enc := eI) (l_var (z := sizes) (enc := eI) 1 rfl (pv 1)) (e_var (z := place) (enc := eI) 3 rfl (pv 3))) (fun total269 => (ss_for (L := fun (s270 : Int) => [.fr (eB round_flag), .ln (List.map eI sizes), .ln (List.map eI strengths), .fr (eI place), .fr (eI s270), .un, .un]) total269 C (i_range2 rfl T.n_range (pa_cons e_int (pa_cons (e_lenL (enc := eI) T.n_len (pa_cons (l_var (z := sizes) (enc := eI) 1 rfl (pv 1)) pa_nil)) pa_nil))) (g_name (enc := eI) (i := 5) C.nd) (wk_e (wk_e (wk_e (wk_e (wk_e (wk_u (wk_u wk_n))))))) Wk.nil (fun step271 s270 => (ss_asg (enc := eI) (i := 6) C.nd (e_add (e_var (z := place) (enc := eI) 3 rfl (pv 3)) (e_var (z := step271) (enc := eI) 5 rfl (pv 5))) (fun at272 => (ss_if (N := fun (j275 : Int) => [.fr (eB round_flag), .ln (List.map eI sizes), .ln (List.map eI strengths), .fr (eI place), .fr (eI s270), .fr (eI step271), .fr (eI j275)]) (t_cmp c_ge (b_e (e_var (z := at272) (enc := eI) 6 rfl (pv 6))) (b_e (e_lenL (enc := eI) T.n_len (pa_cons (l_var (z := sizes) (enc := eI) 1 rfl (pv 1)) pa_nil))) rfl) (ss_ifX (t_not (t_val (e_var (z := round_flag) (enc := eB) 0 rfl (pv 0)))) (ss_brk (c := s270) (wk_e (wk_e (wk_e (wk_e (wk_e (wk_u (wk_u wk_n)))))))) nn_bk (ss_asg (enc := eI) (i := 6) C.nd (e_sub (e_var (z := at272) (enc := eI) 6 rfl (pv 6)) (e_lenL (enc := eI) T.n_len (pa_cons (l_var (z := sizes) (enc := eI) 1 rfl (pv 1)) pa_nil))) (fun at274 => (ss_nil (b := at274) (wk_e (wk_e (wk_e (wk_e (wk_e (wk_e (wk_e wk_n))))))))) Wk.nil) Wk.nil) (ss_nil (b := at272) (wk_e (wk_e (wk_e (wk_e (wk_e (wk_e (wk_e wk_n)))))))) (fun j275 => (ss_ifX (t_cmp c_ge (b_e (e_ixL (enc := eI) (l_var (z := strengths) (enc := eI) 2 rfl (pv 2)) (e_var (z := j275) (enc := eI) 6 rfl (pv 6)))) (b_e (e_ixL (enc := eI) (l_var (z := strengths) (enc := eI) 2 rfl (pv 2)) (e_var (z := place) (enc := eI) 3 rfl (pv 3)))) rfl) (ss_brk (c := s270) (wk_e (wk_e (wk_e (wk_e (wk_e (wk_u (wk_u wk_n)))))))) nn_bk (ss_asg (enc := eI) (i := 4) C.nd (e_add (e_var (z := s270) (enc := eI) 4 rfl (pv 4)) (e_ixL (enc := eI) (l_var (z := sizes) (enc := eI) 1 rfl (pv 1)) (e_var (z := j275) (enc := eI) 6 rfl (pv 6)))) (fun total279 => (ss_nil (b := total279) (wk_e (wk_e (wk_e (wk_e (wk_e (wk_u (wk_u wk_n))))))))) Wk.nil) Wk.nil)) Wk.nil)) Wk.nil)) (fun s281 => (ss_ret (enc := eI) (g := fun z => z) (e_var (z := s281) (enc := eI) 4 rfl (pv 4)) Wk.nil (fun _ => rfl))))) Wk.nil) (by simp only [mbk, mba, sqk, sqa, c__law_reach])) (.inl rfl)
theorem ok__law_all (T : Tx K mg ca fa fd) : FnOk P w K mg base (L2N.CX P w) 2 (fa 7) (fd 7) ["round_flag", "sizes", "strengths"] (spO K ca (xC eB (xL eI (xL eI xN))) eI fun a => f__law_all a.1 a.2.1 a.2.2.1) :=
  fn_O (fn_ok (k := 1) (n := 1) (Nx := fun _ _ => []) (L := fun _ (_ : Empty) => []) (R := fun r : (List Int) => .ow (r.map eI)) (encA := (xC eB (xL eI (xL eI xN)))) (code := fun a => c__law_all a.1 a.2.1 a.2.2.1) T.F__law_all sc__law_all (fun _ => rfl) rfl fun cdv A outer s G H E a C => by
    obtain ⟨round_flag, sizes, strengths, u0⟩ := a
    show DSs _ _ [.fr (eB round_flag), .ln (List.map eI sizes), .ln (List.map eI strengths), .un] _ _ _ _ _
    exact ss_eq (ss_retO (enc := eI) (g := fun z => z) (o_lc0 (ow := [("place", 3)]) (enb := eI) C (i_range1 rfl T.n_range (pa_cons (e_lenL (enc := eI) T.n_len (pa_cons (l_var (z := sizes) (enc := eI) 1 rfl (pv 1)) pa_nil)) pa_nil)) (blkOk_by (N := ["round_flag", "sizes", "strengths", "place"]) (sc := defScope s__law_all) (by decide +kernel)) (fun _ _ _ _ _ => pg_name (i := 3) sc__law_all.nd rfl (Or.inl rfl)) (gs_name (enc := eI) (i := 3) (by decide)) (fun _ _ _ _ _ C285 place284 => (e_call C285 (by decide) (ok__law_reach T) T.g__law_reach T.k__law_reach T.b__law_reach (x_cons (e_var (z := round_flag) (enc := eB) 0 rfl (pv 0)) (x_consL (l_var (z := sizes) (enc := eI) 1 rfl (pv 1)) (x_consL (l_var (z := strengths) (enc := eI) 2 rfl (pv 2)) (x_cons (e_var (z := place284) (enc := eI) 3 rfl (pv 3)) x_nil))))))) Wk.nil (fun _ => rfl)) (by simp only [mbk, mba, sqk, sqa, c__law_all]))
theorem ok_Beads___len__ (T : Tx K mg ca fa fd) : FnOk P w K mg base (L2N.CX P w) 1 (fa 8) (fd 8) ["self"] (spE K ca (xC eBeads xN) eI fun a => f_Beads___len__ a.1) :=
  fn_E (d := .no) (fn_ok (k := 0) (n := 0) (Nx := fun _ _ => []) (L := fun _ (_ : Empty) => []) (R := fun r : Int => .fr (eI r)) (encA := (xC eBeads xN)) (code := fun a => c_Beads___len__ a.1) T.F_Beads___len__ sc_Beads___len__ (fun _ => rfl) rfl fun cdv A outer s G H E a C => by
    obtain ⟨self, u0⟩ := a
    show DSs _ _ [.fr (eBeads self)] _ _ _ _ _
    exact ss_eq (ss_ret (enc := eI) (g := fun z => z) (e_lenT (enc := eI) T.n_len (pa_cons (e_fld (g := fun z : BV => z.strengths) (enb := (eT eI)) (e_var (z := self) (enc := eBeads) 0 rfl (pv 0)) T.cl_Beads T.na_Beads_strengths fC_Beads_strengths) pa_nil)) Wk.nil (fun _ => rfl)) (by simp only [mbk, mba, sqk, sqa, c_Beads___len__])) (.inl rfl)
theorem ok_check_place (T : Tx K mg ca fa fd) : FnOk P w K mg base (L2N.CX P w) 4 (fa 9) (fd 9) ["place", "size"] (spE K ca (xC eI (xC eI xN)) eU fun a => f_check_place a.1 a.2.1) :=
  fn_E (d := (.ok ())) (fn_ok (k := 3) (n := 0) (Nx := fun _ _ => []) (L := fun _ (_ : Empty) => []) (R := fun r : Unit => .fr (eU r)) (encA := (xC eI (xC eI xN))) (code := fun a => c_check_place a.1 a.2.1) T.F_check_place sc_check_place (fun _ => rfl) rfl fun cdv A outer s G H E a C => by
    obtain ⟨place, size, u0⟩ := a
    show DSs _ _ [.fr (eI place), .fr (eI size)] _ _ _ _ _
    exact ss_eq (ss_ifX (t_w (w_orP (t_cmp c_lt (b_e (e_var (z := place) (enc := eI) 0 rfl (pv 0))) (b_e e_int) rfl) (w_or1 (t_cmp c_ge (b_e (e_var (z := place) (enc := eI) 0 rfl (pv 0))) (b_e (e_var (z := size) (enc := eI) 1 rfl (pv 1))) rfl)) rfl)) (ss_raise1 (enc := eI) C (by decide) T.x_BadPlace (okI_BadPlace T) T.xb_BadPlace (pa_cons (e_var (z := place) (enc := eI) 0 rfl (pv 0)) pa_nil) Wk.nil) (nn_mb fun _ => nn_er) (ss_nil (b := ()) Wk.nil) Wk.nil) (by simp only [mbk, mba, sqk, sqa, c_check_place])) (.inr ⟨_, rfl, rfl⟩)
theorem ok_run_of (T : Tx K mg ca fa fd) : FnOk P w K mg base (L2N.CX P w) 3 (fa 10) (fd 10) ["beads", "place"] (spO K ca (xC eBeads (xC eI xN)) eI fun a => f_run_of a.1 a.2.1) :=
  fn_O (fn_ok (k := 2) (n := 1) (Nx := fun _ _ => []) (L := fun _ (_ : Empty) => []) (R := fun r : (List Int) => .ow (r.map eI)) (encA := (xC eBeads (xC eI xN))) (code := fun a => c_run_of a.1 a.2.1) T.F_run_of sc_run_of (fun _ => rfl) rfl fun cdv A outer s G H E a C => by
    obtain ⟨beads, place, u0⟩ := a
    show DSs _ _ [.fr (eBeads beads), .fr (eI place), .un] _ _ _ _ _
    exact ss_eq (ss_asgO (i := 2) C.nd (o_rng2 C.calm T.n_list T.n_range (e_add (e_var (z := place) (enc := eI) 1 rfl (pv 1)) e_int) (e_lenO C (by decide) T.n_len T.cl_Beads T.m_Beads___len__.at_ T.m_Beads___len__.fn (ok_Beads___len__ T) T.b_Beads___len__ (fun z => (rfl : eBeads z = _)) (fun _ _ h => ok_ne h) (pa_cons (e_var (z := beads) (enc := eBeads) 0 rfl (pv 0)) pa_nil))) (fun after303 => (ss_if (N := fun (j308 : List Int) => [.fr (eBeads beads), .fr (eI place), .ow (List.map eI j308)]) (t_val (e_fld (g := fun z : BV => z.ring) (enb := eB) (e_var (z := beads) (enc := eBeads) 0 rfl (pv 0)) T.cl_Beads T.na_Beads_ring fC_Beads_ring)) (ss_asgO (i := 2) C.nd (o_cat (enc := eI) (b_var (z := after303) (enc := eI) 2 rfl (pv 2)) (b_e (e_o (o_rng1 C.calm T.n_list T.n_range (e_var (z := place) (enc := eI) 1 rfl (pv 1)))))) (fun after307 => (ss_nil (b := after307) (wk_e (wk_e (wk_e wk_n))))) Wk.nil) (ss_nil (b := after303) (wk_e (wk_e (wk_e wk_n)))) (fun j308 => (ss_retV (r := j308) 2 rfl rfl (pv 2))) Wk.nil)) Wk.nil) (by simp only [mbk, mba, sqk, sqa, c_run_of]))
theorem ok_train_of (T : Tx K mg ca fa fd) : FnOk P w K mg base (L2N.CX P w) 5 (fa 11) (fd 11) ["beads", "place"] (spO K ca (xC eBeads (xC eI xN)) eI fun a => f_train_of a.1 a.2.1) :=
  fn_O (fn_ok (k := 4) (n := 3) (Nx := fun _ _ => []) (L := fun _ (_ : Empty) => []) (R := fun r : (List Int) => .ow (r.map eI)) (encA := (xC eBeads (xC eI xN))) (code := fun a => c_train_of a.1 a.2.1) T.F_train_of sc_train_of (fun _ => rfl) rfl fun cdv A outer s G H E a C => by
    obtain ⟨beads, place, u0⟩ := a
    show DSs _ _ [.fr (eBeads beads), .fr (eI place), .un, .un, .un] _ _ _ _ _
    exact ss_eq (ss_expr (enc := eU) (e_call C (by decide) (ok_check_place T) T.g_check_place T.k_check_place T.b_check_place (x_cons (e_var (z := place) (enc := eI) 1 rfl (pv 1)) (x_cons (e_lenO C (by decide) T.n_len T.cl_Beads T.m_Beads___len__.at_ T.m_Beads___len__.fn (ok_Beads___len__ T) T.b_Beads___len__ (fun z => (rfl : eBeads z = _)) (fun _ _ h => ok_ne h) (pa_cons (e_var (z := beads) (enc := eBeads) 0 rfl (pv 0)) pa_nil)) x_nil))) (ss_asg (enc := (eT eI)) (i := 2) C.nd (e_fld (g := fun z : BV => z.strengths) (enb := (eT eI)) (e_var (z := beads) (enc := eBeads) 0 rfl (pv 0)) T.cl_Beads T.na_Beads_strengths fC_Beads_strengths) (fun strengths331 => (ss_asgO (i := 3) C.nd (o_lst (enc := eI) (g := fun _ => []) a_nil (fun _ => rfl) (fun _ => small_line (Nat.zero_le _))) (fun train332 => (ss_for (L := fun (s333 : List Int) => [.fr (eBeads beads), .fr (eI place), .fr ((eT eI) strengths331), .ow (List.map eI s333), .un]) train332 C (i_list (enc := eI) (e_o (o_call C (by decide) (ok_run_of T) T.g_run_of T.k_run_of T.b_run_of (x_cons (e_var (z := beads) (enc := eBeads) 0 rfl (pv 0)) (x_cons (e_var (z := place) (enc := eI) 1 rfl (pv 1)) x_nil))))) (g_name (enc := eI) (i := 4) C.nd) (wk_e (wk_e (wk_e (wk_e (wk_u wk_n))))) Wk.nil (fun at334 s333 => (ss_ifX (t_cmp c_ge (b_e (e_ixT (enc := eI) (e_var (z := strengths331) (enc := (eT eI)) 2 rfl (pv 2)) (e_var (z := at334) (enc := eI) 4 rfl (pv 4)))) (b_e (e_ixT (enc := eI) (e_var (z := strengths331) (enc := (eT eI)) 2 rfl (pv 2)) (e_var (z := place) (enc := eI) 1 rfl (pv 1)))) rfl) (ss_brk (c := s333) (wk_e (wk_e (wk_e (wk_e (wk_u wk_n)))))) nn_bk (ss_app (enc := eI) (xs := s333) 3 rfl (pv 3) (e_var (z := at334) (enc := eI) 4 rfl (pv 4)) (fun train337 => (ss_nil (b := train337) (wk_e (wk_e (wk_e (wk_e (wk_u wk_n))))))) Wk.nil (pe_bm PySem.F.plainAttrs_list PySem.F.slot_list_append PySem.F.type_list_append mt_append (pv 3) (pa_cons (e_var (z := at334) (enc := eI) 4 rfl (pv 4)) pa_nil))) Wk.nil)) (fun s339 => (ss_retV (r := s339) 3 rfl rfl (pv 3))))) Wk.nil)) Wk.nil) Wk.nil) (by simp only [mbk, mba, sqk, sqa, c_train_of]))
theorem ok_reach_of (T : Tx K mg ca fa fd) : FnOk P w K mg base (L2N.CX P w) 6 (fa 12) (fd 12) ["beads", "place"] (spE K ca (xC eBeads (xC eI xN)) eI fun a => f_reach_of a.1 a.2.1) :=
  fn_E (d := .no) (fn_ok (k := 5) (n := 2) (Nx := fun _ _ => []) (L := fun _ (_ : Empty) => []) (R := fun r : Int => .fr (eI r)) (encA := (xC eBeads (xC eI xN))) (code := fun a => c_reach_of a.1 a.2.1) T.F_reach_of sc_reach_of (fun _ => rfl) rfl fun cdv A outer s G H E a C => by
    obtain ⟨beads, place, u0⟩ := a
    show DSs _ _ [.fr (eBeads beads), .fr (eI place), .un, .un] _ _ _ _ _
    exact ss_eq (ss_asgO (i := 2) C.nd (o_call C (by decide) (ok_train_of T) T.g_train_of T.k_train_of T.b_train_of (x_cons (e_var (z := beads) (enc := eBeads) 0 rfl (pv 0)) (x_cons (e_var (z := place) (enc := eI) 1 rfl (pv 1)) x_nil))) (fun train348 => (ss_frz 2 rfl (ss_ret (enc := eI) (g := fun z => z) (e_add (e_ixT (enc := eI) (e_fld (g := fun z : BV => z.lengths) (enb := (eT eI)) (e_var (z := beads) (enc := eBeads) 0 rfl (pv 0)) T.cl_Beads T.na_Beads_lengths fC_Beads_lengths) (e_var (z := place) (enc := eI) 1 rfl (pv 1))) (e_sum C.calm T.n_sum (pa_cons (b_e (e_o (o_lc0 (ow := [("at", 3)]) (enb := eI) C (i_list (enc := eI) (e_var (z := train348) (enc := (eL eI)) 2 rfl (pv 2))) (blkOk_by (N := ["beads", "place", "train", "at"]) (sc := defScope s_reach_of) (by decide +kernel)) (fun _ _ _ _ _ => pg_name (i := 3) sc_reach_of.nd rfl (Or.inl rfl)) (gs_name (enc := eI) (i := 3) (by decide)) (fun _ _ _ _ _ C350 at349 => (e_ixT (enc := eI) (e_fld (g := fun z : BV => z.lengths) (enb := (eT eI)) (e_var (z := beads) (enc := eBeads) 0 rfl (pv 0)) T.cl_Beads T.na_Beads_lengths fC_Beads_lengths) (e_var (z := at349) (enc := eI) 3 rfl (pv 3))))))) pa_nil))) Wk.nil (fun _ => rfl)))) Wk.nil) (by simp only [mbk, mba, sqk, sqa, c_reach_of])) (.inl rfl)
theorem ok_reaches (T : Tx K mg ca fa fd) : FnOk P w K mg base (L2N.CX P w) 7 (fa 13) (fd 13) ["beads"] (spO K ca (xC eBeads xN) eI fun a => f_reaches a.1) :=
  fn_O (fn_ok (k := 6) (n := 1) (Nx := fun _ _ => []) (L := fun _ (_ : Empty) => []) (R := fun r : (List Int) => .ow (r.map eI)) (encA := (xC eBeads xN)) (code := fun a => c_reaches a.1) T.F_reaches sc_reaches (fun _ => rfl) rfl fun cdv A outer s G H E a C => by
    obtain ⟨beads, u0⟩ := a
    show DSs _ _ [.fr (eBeads beads), .un] _ _ _ _ _
    exact ss_eq (ss_retO (enc := eI) (g := fun z => z) (o_lc0 (ow := [("place", 1)]) (enb := eI) C (i_range1 rfl T.n_range (pa_cons (e_lenO C (by decide) T.n_len T.cl_Beads T.m_Beads___len__.at_ T.m_Beads___len__.fn (ok_Beads___len__ T) T.b_Beads___len__ (fun z => (rfl : eBeads z = _)) (fun _ _ h => ok_ne h) (pa_cons (e_var (z := beads) (enc := eBeads) 0 rfl (pv 0)) pa_nil)) pa_nil)) (blkOk_by (N := ["beads", "place"]) (sc := defScope s_reaches) (by decide +kernel)) (fun _ _ _ _ _ => pg_name (i := 1) sc_reaches.nd rfl (Or.inl rfl)) (gs_name (enc := eI) (i := 1) (by decide)) (fun _ _ _ _ _ C358 place357 => (e_call C358 (by decide) (ok_reach_of T) T.g_reach_of T.k_reach_of T.b_reach_of (x_cons (e_var (z := beads) (enc := eBeads) 0 rfl (pv 0)) (x_cons (e_var (z := place357) (enc := eI) 1 rfl (pv 1)) x_nil))))) Wk.nil (fun _ => rfl)) (by simp only [mbk, mba, sqk, sqa, c_reaches]))
theorem ok__law_is_integer (T : Tx K mg ca fa fd) : FnOk P w K mg base (L2N.CX P w) 1 (fa 14) (fd 14) ["actual"] (spE K ca (xC eI xN) eB fun a => f__law_is_integer a.1) :=
  fn_E (d := .no) (fn_ok (k := 0) (n := 0) (Nx := fun _ _ => []) (L := fun _ (_ : Empty) => []) (R := fun r : Bool => .fr (eB r)) (encA := (xC eI xN)) (code := fun a => c__law_is_integer a.1) T.F__law_is_integer sc__law_is_integer (fun _ => rfl) rfl fun cdv A outer s G H E a C => by
    obtain ⟨actual, u0⟩ := a
    show DSs _ _ [.fr (eI actual)] _ _ _ _ _
    exact ss_eq (ss_ret (enc := eB) (g := fun z => z) (e_andP (e_isi T.n_isinstance (.ty "int") (ty_int (r := true) (by decide +kernel)) (pa_cons (b_e (e_var (z := actual) (enc := eI) 0 rfl (pv 0))) (pa_cons (pe_bltn (v := .ty "int") rfl T.n_int boot_int rfl) pa_nil))) (e_one (e_not (e_isi T.n_isinstance (.ty "bool") (ty_int (r := false) (by decide +kernel)) (pa_cons (b_e (e_var (z := actual) (enc := eI) 0 rfl (pv 0))) (pa_cons (pe_bltn (v := .ty "bool") rfl T.n_bool boot_bool rfl) pa_nil))))) rfl) Wk.nil (fun _ => rfl)) (by simp only [mbk, mba, sqk, sqa, c__law_is_integer])) (.inl rfl)
theorem ok__law_numbers (T : Tx K mg ca fa fd) : FnOk P w K mg base (L2N.CX P w) 2 (fa 15) (fd 15) ["actual", "due", "as_tuple"] (spE K ca (xL eI (xL eI (xC eB xN))) eB fun a => f__law_numbers a.1 a.2.1 a.2.2.1) :=
  fn_E (d := .no) (fn_ok (k := 1) (n := 1) (Nx := fun _ _ => []) (L := fun _ (_ : Empty) => []) (R := fun r : Bool => .fr (eB r)) (encA := (xL eI (xL eI (xC eB xN)))) (code := fun a => c__law_numbers a.1 a.2.1 a.2.2.1) T.F__law_numbers sc__law_numbers (fun _ => rfl) rfl fun cdv A outer s G H E a C => by
    obtain ⟨actual, due, as_tuple, u0⟩ := a
    show DSs _ _ [.ln (List.map eI actual), .ln (List.map eI due), .fr (eB as_tuple), .un] _ _ _ _ _
    exact ss_eq (ss_ifX (t_w (w_orP (t_w (w_andP (t_val (e_var (z := as_tuple) (enc := eB) 2 rfl (pv 2))) (w_and1 (t_not (t_val (e_isi T.n_isinstance (.ty "tuple") (ty_lst (r := false) (by decide +kernel)) (pa_cons (l_var (z := actual) (enc := eI) 0 rfl (pv 0)) (pa_cons (pe_bltn (v := .ty "tuple") rfl T.n_tuple boot_tuple rfl) pa_nil)))))) rfl)) (w_or1 (t_w (w_andP (t_not (t_val (e_var (z := as_tuple) (enc := eB) 2 rfl (pv 2)))) (w_and1 (t_not (t_val (e_isi T.n_isinstance (.ty "list") (ty_lst (r := true) (by decide +kernel)) (pa_cons (l_var (z := actual) (enc := eI) 0 rfl (pv 0)) (pa_cons (pe_bltn (v := .ty "list") rfl T.n_list boot_list rfl) pa_nil)))))) rfl))) rfl)) (ss_ret (enc := eB) (g := fun z => z) e_bl Wk.nil (fun _ => rfl)) (nn_mb fun _ => nn_rt) (ss_ifX (t_cmp c_ne (b_e (e_lenL (enc := eI) T.n_len (pa_cons (l_var (z := actual) (enc := eI) 0 rfl (pv 0)) pa_nil))) (b_e (e_lenL (enc := eI) T.n_len (pa_cons (l_var (z := due) (enc := eI) 1 rfl (pv 1)) pa_nil))) rfl) (ss_ret (enc := eB) (g := fun z => z) e_bl Wk.nil (fun _ => rfl)) (nn_mb fun _ => nn_rt) (ss_for (L := fun (s372 : Unit) => [.ln (List.map eI actual), .ln (List.map eI due), .fr (eB as_tuple), .un]) () C (i_range1 rfl T.n_range (pa_cons (e_lenL (enc := eI) T.n_len (pa_cons (l_var (z := due) (enc := eI) 1 rfl (pv 1)) pa_nil)) pa_nil)) (g_name (enc := eI) (i := 3) C.nd) (wk_e (wk_e (wk_e (wk_u wk_n)))) Wk.nil (fun k373 s372 => (ss_ifX (t_w (w_or (t_not (t_val (e_call C (by decide) (ok__law_is_integer T) T.g__law_is_integer T.k__law_is_integer T.b__law_is_integer (x_cons (e_ixL (enc := eI) (l_var (z := actual) (enc := eI) 0 rfl (pv 0)) (e_var (z := k373) (enc := eI) 3 rfl (pv 3))) x_nil)))) (w_or1 (t_cmp c_ne (b_e (e_ixL (enc := eI) (l_var (z := actual) (enc := eI) 0 rfl (pv 0)) (e_var (z := k373) (enc := eI) 3 rfl (pv 3)))) (b_e (e_ixL (enc := eI) (l_var (z := due) (enc := eI) 1 rfl (pv 1)) (e_var (z := k373) (enc := eI) 3 rfl (pv 3)))) rfl)))) (ss_ret (enc := eB) (g := fun z => z) e_bl Wk.nil (fun _ => rfl)) (nn_mb fun _ => nn_rt) (ss_nil (b := ()) (wk_e (wk_e (wk_e (wk_u wk_n))))) Wk.nil)) (fun s380 => (ss_ret (enc := eB) (g := fun z => z) e_bl Wk.nil (fun _ => rfl)))) Wk.nil) Wk.nil) (by simp only [mbk, mba, sqk, sqa, c__law_numbers])) (.inl rfl)
theorem ok_Beads___init___v1 (T : Tx K mg ca fa fd) : FnOk P w K mg base (L2N.CX P w) 4 (fa 4) (fd 4) ["self", "strengths", "lengths", "ring"] (spN K ca "Beads" (xL eI (xC (eT eI) (xC eB xN))) fun a => mb (f_Beads___init___v1 a.1 a.2.1 a.2.2.1) fun r => .ok (fB r)) :=
  fn_I (fn_init (k := 3) (n := 1) (Nx := fun p _ b => [.nw p "Beads" (fB b)]) (L := fun _ (_ : Empty) => []) (R := fun _ : Unit => .fr .non) (Fl := fB) (encA := (xL eI (xC (eT eI) (xC eB xN)))) (code := fun a => c_Beads___init___v1 a.1 a.2.1 a.2.2.1) T.F_Beads___init__ sc_Beads___init__ (fun _ => rfl) rfl (fun _ _ _ => rfl) fun cdv A outer s G H E a p C => by
    obtain ⟨strengths, lengths, ring, u0⟩ := a
    show DSs _ _ [.nw p "Beads" [], .ln (List.map eI strengths), .fr ((eT eI) lengths), .fr (eB ring), .un] _ _ _ _ _
    exact ss_eq (ss_sfld (enc := (eT eI)) 0 rfl (pv 0) T.cl_Beads T.na_Beads_strengths (by show (0 : Nat) < 1000; decide) (e_tuple (enc := eI) T.n_tuple (pa_cons (l_var (z := strengths) (enc := eI) 1 rfl (pv 1)) pa_nil)) (fun strengths402 => (ss_ifJF (N := fun (j405 : (List Int)) => [.nw p "Beads" [("strengths", (eT eI) strengths402), ("lengths", (eT eI) j405)], .ln (List.map eI strengths), .fr ((eT eI) lengths), .fr (eB ring), .un]) (t_cmp (c_isF (fun _ h => by cases h)) (b_e (e_var (z := lengths) (enc := (eT eI)) 2 rfl (pv 2))) (b_e e_non) rfl) (ss_sfld (enc := (eT eI)) 0 rfl (pv 0) T.cl_Beads T.na_Beads_lengths (by show (1 : Nat) < 1000; decide) (e_tupleT (enc := eI) T.n_tuple (pa_cons (e_var (z := lengths) (enc := (eT eI)) 2 rfl (pv 2)) pa_nil)) (fun lengths404 => (ss_nil (b := lengths404) (wk_e (wk_e (wk_e (wk_e (wk_u wk_n))))))) Wk.nil) (fun j405 => (ss_sfld (enc := eB) 0 rfl (pv 0) T.cl_Beads T.na_Beads_ring (by show (2 : Nat) < 1000; decide) (e_var (z := ring) (enc := eB) 3 rfl (pv 3)) (fun ring406 => (ss_ifX (t_w (w_orP (t_cmp (c_eqD (pd_tup pd_int) (by decide) C.room.units) (b_e (e_sfld (z := strengths402) (enc := (eT eI)) 0 rfl (pv 0) T.cl_Beads T.na_Beads_strengths (by rfl))) (b_e (e_tupH (enc := eI) (g := fun _ => []) a_nil (fun _ => rfl) (fun _ => small_line (Nat.zero_le _)))) rfl) (w_or1 (t_cmp c_ne (b_e (e_lenT (enc := eI) T.n_len (pa_cons (e_sfld (z := j405) (enc := (eT eI)) 0 rfl (pv 0) T.cl_Beads T.na_Beads_lengths (by rfl)) pa_nil))) (b_e (e_lenT (enc := eI) T.n_len (pa_cons (e_sfld (z := strengths402) (enc := (eT eI)) 0 rfl (pv 0) T.cl_Beads T.na_Beads_strengths (by rfl)) pa_nil))) rfl)) rfl)) (ss_raise1 (enc := eI) C (by decide) T.x_BadBeads (okI_BadBeads T) T.xb_BadBeads (pa_cons (e_neg e_int) pa_nil) Wk.nil) (nn_mb fun _ => nn_er) (ss_for (L := fun (s407 : Unit) => [.nw p "Beads" [("strengths", (eT eI) strengths402), ("lengths", (eT eI) j405), ("ring", eB ring406)], .ln (List.map eI strengths), .fr ((eT eI) lengths), .fr (eB ring), .un]) () C (i_range1 rfl T.n_range (pa_cons (e_lenT (enc := eI) T.n_len (pa_cons (e_sfld (z := strengths402) (enc := (eT eI)) 0 rfl (pv 0) T.cl_Beads T.na_Beads_strengths (by rfl)) pa_nil)) pa_nil)) (g_name (enc := eI) (i := 4) C.nd) (wk_e (wk_e (wk_e (wk_e (wk_u wk_n))))) Wk.nil (fun place408 s407 => (ss_ifX (t_w (w_or (t_cmp c_lt (b_e (e_ixT (enc := eI) (e_sfld (z := strengths402) (enc := (eT eI)) 0 rfl (pv 0) T.cl_Beads T.na_Beads_strengths (by rfl)) (e_var (z := place408) (enc := eI) 4 rfl (pv 4)))) (b_e e_int) rfl) (w_or1 (t_cmp c_lt (b_e (e_ixT (enc := eI) (e_sfld (z := j405) (enc := (eT eI)) 0 rfl (pv 0) T.cl_Beads T.na_Beads_lengths (by rfl)) (e_var (z := place408) (enc := eI) 4 rfl (pv 4)))) (b_e e_int) rfl)))) (ss_raise1 (enc := eI) C (by decide) T.x_BadBeads (okI_BadBeads T) T.xb_BadBeads (pa_cons (e_var (z := place408) (enc := eI) 4 rfl (pv 4)) pa_nil) Wk.nil) (nn_mb fun _ => nn_er) (ss_nil (b := ()) (wk_e (wk_e (wk_e (wk_e (wk_u wk_n)))))) Wk.nil)) (fun s413 => (ss_nil (b := (⟨strengths402, j405, ring406⟩ : BV)) (wk_e wk_n)))) Wk.nil)) Wk.nil)) Wk.nil)) Wk.nil) (by simp only [mbk, mba, sqk, sqa, c_Beads___init___v1])) fun _ => rfl
theorem ok_Beads_with_strength (T : Tx K mg ca fa fd) : FnOk P w K mg base (L2N.CX P w) 6 (fa 16) (fd 16) ["self", "place", "strength"] (spE K ca (xC eBeads (xC eI (xC eI xN))) eBeads fun a => f_Beads_with_strength a.1 a.2.1 a.2.2.1) :=
  fn_E (d := .no) (fn_ok (k := 5) (n := 1) (Nx := fun _ _ => []) (L := fun _ (_ : Empty) => []) (R := fun r : BV => .fr (eBeads r)) (encA := (xC eBeads (xC eI (xC eI xN)))) (code := fun a => c_Beads_with_strength a.1 a.2.1 a.2.2.1) T.F_Beads_with_strength sc_Beads_with_strength (fun _ => rfl) rfl fun cdv A outer s G H E a C => by
    obtain ⟨self, place, strength, u0⟩ := a
    show DSs _ _ [.fr (eBeads self), .fr (eI place), .fr (eI strength), .un] _ _ _ _ _
    exact ss_eq (ss_expr (enc := eU) (e_call C (by decide) (ok_check_place T) T.g_check_place T.k_check_place T.b_check_place (x_cons (e_var (z := place) (enc := eI) 1 rfl (pv 1)) (x_cons (e_lenT (enc := eI) T.n_len (pa_cons (e_fld (g := fun z : BV => z.strengths) (enb := (eT eI)) (e_var (z := self) (enc := eBeads) 0 rfl (pv 0)) T.cl_Beads T.na_Beads_strengths fC_Beads_strengths) pa_nil)) x_nil))) (ss_ifX (t_cmp c_lt (b_e (e_var (z := strength) (enc := eI) 2 rfl (pv 2))) (b_e e_int) rfl) (ss_raise1 (enc := eI) C (by decide) T.x_BadBeads (okI_BadBeads T) T.xb_BadBeads (pa_cons (e_var (z := place) (enc := eI) 1 rfl (pv 1)) pa_nil) Wk.nil) (nn_mb fun _ => nn_er) (ss_asgO (i := 3) C.nd (o_listT (enc := eI) T.n_list (pa_cons (e_fld (g := fun z : BV => z.strengths) (enb := (eT eI)) (e_var (z := self) (enc := eBeads) 0 rfl (pv 0)) T.cl_Beads T.na_Beads_strengths fC_Beads_strengths) pa_nil)) (fun strengths416 => (ss_put (enc := eI) (xs := strengths416) 3 rfl (pv 3) (e_var (z := strength) (enc := eI) 2 rfl (pv 2)) (e_var (z := place) (enc := eI) 1 rfl (pv 1)) (fun strengths417 => (ss_ret (enc := eBeads) (g := fun z => z) (e_make C (by decide) (fun _ _ _ _ _ h => h) T.mk_Beads (ok_Beads___init___v1 T) T.g_Beads T.kb_Beads_3_ring (x_consL (b_var (z := strengths417) (enc := eI) 3 rfl (pv 3)) (x_cons (e_fld (g := fun z : BV => z.lengths) (enb := (eT eI)) (e_var (z := self) (enc := eBeads) 0 rfl (pv 0)) T.cl_Beads T.na_Beads_lengths fC_Beads_lengths) x_nil)) (k_cons (e_fld (g := fun z : BV => z.ring) (enb := eB) (e_var (z := self) (enc := eBeads) 0 rfl (pv 0)) T.cl_Beads T.na_Beads_ring fC_Beads_ring) k_nil) (fun _ => rfl) (fun _ => rfl) (a3 (mk := fun (z : _ × _ × Unit) (y : _ × Unit) => (z.1, z.2.1, y.1, ())) fun _ _ => rfl)) Wk.nil (fun _ => rfl))) Wk.nil)) Wk.nil) Wk.nil) Wk.nil) (by simp only [mbk, mba, sqk, sqa, c_Beads_with_strength])) (.inl rfl)
theorem ok__law_is_raised (T : Tx K mg ca fa fd) : FnOk P w K mg base (L2N.CX P w) 8 (fa 17) (fd 17) ["beads", "round_flag", "sizes", "strengths", "place", "strength"] (spE K ca (xC eBeads (xC eB (xL eI (xL eI (xC eI (xC eI xN)))))) eB fun a => f__law_is_raised a.1 a.2.1 a.2.2.1 a.2.2.2.1 a.2.2.2.2.1 a.2.2.2.2.2.1) :=
  fn_E (d := .no) (fn_ok (k := 7) (n := 6) (Nx := fun _ _ => []) (L := fun _ (_ : Empty) => []) (R := fun r : Bool => .fr (eB r)) (encA := (xC eBeads (xC eB (xL eI (xL eI (xC eI (xC eI xN))))))) (code := fun a => c__law_is_raised a.1 a.2.1 a.2.2.1 a.2.2.2.1 a.2.2.2.2.1 a.2.2.2.2.2.1) T.F__law_is_raised sc__law_is_raised (fun _ => rfl) rfl fun cdv A outer s G H E a C => by
    obtain ⟨beads, round_flag, sizes, strengths, place, strength, u0⟩ := a
    show DSs _ _ [.fr (eBeads beads), .fr (eB round_flag), .ln (List.map eI sizes), .ln (List.map eI strengths), .fr (eI place), .fr (eI strength), .un, .un, .un, .un, .un, .un] _ _ _ _ _
    exact ss_eq (ss_asgO (i := 6) C.nd (o_call C (by decide) (ok__law_all T) T.g__law_all T.k__law_all T.b__law_all (x_cons (e_var (z := round_flag) (enc := eB) 1 rfl (pv 1)) (x_consL (l_var (z := sizes) (enc := eI) 2 rfl (pv 2)) (x_consL (l_var (z := strengths) (enc := eI) 3 rfl (pv 3)) x_nil)))) (fun due437 => (ss_asgO (i := 7) C.nd (o_call C (by decide) (ok_reaches T) T.g_reaches T.k_reaches T.b_reaches (x_cons (e_var (z := beads) (enc := eBeads) 0 rfl (pv 0)) x_nil)) (fun told438 => (ss_ifX (t_not (t_val (e_call C (by decide) (ok__law_numbers T) T.g__law_numbers T.k__law_numbers T.b__law_numbers (x_consL (b_var (z := told438) (enc := eI) 7 rfl (pv 7)) (x_consL (b_var (z := due437) (enc := eI) 6 rfl (pv 6)) (x_cons e_bl x_nil)))))) (ss_ret (enc := eB) (g := fun z => z) e_bl Wk.nil (fun _ => rfl)) (nn_mb fun _ => nn_rt) (ss_asgO (i := 8) C.nd (o_list (enc := eI) T.n_list (pa_cons (b_var (z := told438) (enc := eI) 7 rfl (pv 7)) pa_nil)) (fun before440 => (ss_app (enc := eI) (xs := told438) 7 rfl (pv 7) e_int (fun told441 => (ss_asgO (i := 9) C.nd (o_list (enc := eI) T.n_list (pa_cons (l_var (z := strengths) (enc := eI) 3 rfl (pv 3)) pa_nil)) (fun higher442 => (ss_put (enc := eI) (xs := higher442) 9 rfl (pv 9) (e_var (z := strength) (enc := eI) 5 rfl (pv 5)) (e_var (z := place) (enc := eI) 4 rfl (pv 4)) (fun higher443 => (ss_asgO (i := 10) C.nd (o_call C (by decide) (ok_reaches T) T.g_reaches T.k_reaches T.b_reaches (x_cons (e_meth C (by decide) (e_var (z := beads) (enc := eBeads) 0 rfl (pv 0)) T.cl_Beads T.m_Beads_with_strength (ok_Beads_with_strength T) T.b_Beads_with_strength (fun _ => ⟨rfl, by rfl⟩) (x_cons (e_var (z := place) (enc := eI) 4 rfl (pv 4)) (x_cons (e_var (z := strength) (enc := eI) 5 rfl (pv 5)) x_nil)) denF_none) x_nil)) (fun after445 => (ss_ifX (t_not (t_val (e_call C (by decide) (ok__law_numbers T) T.g__law_numbers T.k__law_numbers T.b__law_numbers (x_consL (b_var (z := after445) (enc := eI) 10 rfl (pv 10)) (x_consL (b_e (e_o (o_call C (by decide) (ok__law_all T) T.g__law_all T.k__law_all T.b__law_all (x_cons (e_var (z := round_flag) (enc := eB) 1 rfl (pv 1)) (x_consL (l_var (z := sizes) (enc := eI) 2 rfl (pv 2)) (x_consL (b_var (z := higher443) (enc := eI) 9 rfl (pv 9)) x_nil)))))) (x_cons e_bl x_nil)))))) (ss_ret (enc := eB) (g := fun z => z) e_bl Wk.nil (fun _ => rfl)) (nn_mb fun _ => nn_rt) (ss_for (L := fun (s448 : Unit) => [.fr (eBeads beads), .fr (eB round_flag), .ln (List.map eI sizes), .ln (List.map eI strengths), .fr (eI place), .fr (eI strength), .ow (List.map eI due437), .ow (List.map eI told441), .ow (List.map eI before440), .ow (List.map eI higher443), .ow (List.map eI after445), .un]) () C (i_range1 rfl T.n_range (pa_cons (e_lenL (enc := eI) T.n_len (pa_cons (l_var (z := sizes) (enc := eI) 2 rfl (pv 2)) pa_nil)) pa_nil)) (g_name (enc := eI) (i := 11) C.nd) (wk_e (wk_e (wk_e (wk_e (wk_e (wk_e (wk_e (wk_e (wk_e (wk_e (wk_e (wk_u wk_n)))))))))))) Wk.nil (fun at449 s448 => (ss_ifX (t_w (w_or (t_w (w_and (t_cmp c_eq (b_e (e_var (z := at449) (enc := eI) 11 rfl (pv 11))) (b_e (e_var (z := place) (enc := eI) 4 rfl (pv 4))) rfl) (w_and1 (t_cmp c_lt (b_e (e_ixL (enc := eI) (b_var (z := after445) (enc := eI) 10 rfl (pv 10)) (e_var (z := at449) (enc := eI) 11 rfl (pv 11)))) (b_e (e_ixL (enc := eI) (b_var (z := before440) (enc := eI) 8 rfl (pv 8)) (e_var (z := at449) (enc := eI) 11 rfl (pv 11)))) rfl)))) (w_or1 (t_w (w_and (t_cmp c_ne (b_e (e_var (z := at449) (enc := eI) 11 rfl (pv 11))) (b_e (e_var (z := place) (enc := eI) 4 rfl (pv 4))) rfl) (w_and1 (t_cmp c_gt (b_e (e_ixL (enc := eI) (b_var (z := after445) (enc := eI) 10 rfl (pv 10)) (e_var (z := at449) (enc := eI) 11 rfl (pv 11)))) (b_e (e_ixL (enc := eI) (b_var (z := before440) (enc := eI) 8 rfl (pv 8)) (e_var (z := at449) (enc := eI) 11 rfl (pv 11)))) rfl))))))) (ss_ret (enc := eB) (g := fun z => z) e_bl Wk.nil (fun _ => rfl)) (nn_mb fun _ => nn_rt) (ss_nil (b := ()) (wk_e (wk_e (wk_e (wk_e (wk_e (wk_e (wk_e (wk_e (wk_e (wk_e (wk_e (wk_u wk_n))))))))))))) Wk.nil)) (fun s456 => (ss_ret (enc := eB) (g := fun z => z) (e_call C (by decide) (ok__law_numbers T) T.g__law_numbers T.k__law_numbers T.b__law_numbers (x_consL (b_e (e_o (o_call C (by decide) (ok_reaches T) T.g_reaches T.k_reaches T.b_reaches (x_cons (e_var (z := beads) (enc := eBeads) 0 rfl (pv 0)) x_nil)))) (x_consL (b_var (z := due437) (enc := eI) 6 rfl (pv 6)) (x_cons e_bl x_nil)))) Wk.nil (fun _ => rfl)))) Wk.nil)) Wk.nil)) Wk.nil)) Wk.nil)) Wk.nil (pe_bm PySem.F.plainAttrs_list PySem.F.slot_list_append PySem.F.type_list_append mt_append (pv 7) (pa_cons e_int pa_nil)))) Wk.nil) Wk.nil)) Wk.nil)) Wk.nil) (by simp only [mbk, mba, sqk, sqa, c__law_is_raised])) (.inl rfl)
theorem ok_Beads___init___v2 (T : Tx K mg ca fa fd) : FnOk P w K mg base (L2N.CX P w) 4 (fa 4) (fd 4) ["self", "strengths", "lengths", "ring"] (spN K ca "Beads" (xC (eT eI) (xC (eT eI) (xC eB xN))) fun a => mb (f_Beads___init___v2 a.1 a.2.1 a.2.2.1) fun r => .ok (fB r)) :=
  fn_I (fn_init (k := 3) (n := 1) (Nx := fun p _ b => [.nw p "Beads" (fB b)]) (L := fun _ (_ : Empty) => []) (R := fun _ : Unit => .fr .non) (Fl := fB) (encA := (xC (eT eI) (xC (eT eI) (xC eB xN)))) (code := fun a => c_Beads___init___v2 a.1 a.2.1 a.2.2.1) T.F_Beads___init__ sc_Beads___init__ (fun _ => rfl) rfl (fun _ _ _ => rfl) fun cdv A outer s G H E a p C => by
    obtain ⟨strengths, lengths, ring, u0⟩ := a
    show DSs _ _ [.nw p "Beads" [], .fr ((eT eI) strengths), .fr ((eT eI) lengths), .fr (eB ring), .un] _ _ _ _ _
    exact ss_eq (ss_sfld (enc := (eT eI)) 0 rfl (pv 0) T.cl_Beads T.na_Beads_strengths (by show (0 : Nat) < 1000; decide) (e_tupleT (enc := eI) T.n_tuple (pa_cons (e_var (z := strengths) (enc := (eT eI)) 1 rfl (pv 1)) pa_nil)) (fun strengths483 => (ss_ifJF (N := fun (j486 : (List Int)) => [.nw p "Beads" [("strengths", (eT eI) strengths483), ("lengths", (eT eI) j486)], .fr ((eT eI) strengths), .fr ((eT eI) lengths), .fr (eB ring), .un]) (t_cmp (c_isF (fun _ h => by cases h)) (b_e (e_var (z := lengths) (enc := (eT eI)) 2 rfl (pv 2))) (b_e e_non) rfl) (ss_sfld (enc := (eT eI)) 0 rfl (pv 0) T.cl_Beads T.na_Beads_lengths (by show (1 : Nat) < 1000; decide) (e_tupleT (enc := eI) T.n_tuple (pa_cons (e_var (z := lengths) (enc := (eT eI)) 2 rfl (pv 2)) pa_nil)) (fun lengths485 => (ss_nil (b := lengths485) (wk_e (wk_e (wk_e (wk_e (wk_u wk_n))))))) Wk.nil) (fun j486 => (ss_sfld (enc := eB) 0 rfl (pv 0) T.cl_Beads T.na_Beads_ring (by show (2 : Nat) < 1000; decide) (e_var (z := ring) (enc := eB) 3 rfl (pv 3)) (fun ring487 => (ss_ifX (t_w (w_orP (t_cmp (c_eqD (pd_tup pd_int) (by decide) C.room.units) (b_e (e_sfld (z := strengths483) (enc := (eT eI)) 0 rfl (pv 0) T.cl_Beads T.na_Beads_strengths (by rfl))) (b_e (e_tupH (enc := eI) (g := fun _ => []) a_nil (fun _ => rfl) (fun _ => small_line (Nat.zero_le _)))) rfl) (w_or1 (t_cmp c_ne (b_e (e_lenT (enc := eI) T.n_len (pa_cons (e_sfld (z := j486) (enc := (eT eI)) 0 rfl (pv 0) T.cl_Beads T.na_Beads_lengths (by rfl)) pa_nil))) (b_e (e_lenT (enc := eI) T.n_len (pa_cons (e_sfld (z := strengths483) (enc := (eT eI)) 0 rfl (pv 0) T.cl_Beads T.na_Beads_strengths (by rfl)) pa_nil))) rfl)) rfl)) (ss_raise1 (enc := eI) C (by decide) T.x_BadBeads (okI_BadBeads T) T.xb_BadBeads (pa_cons (e_neg e_int) pa_nil) Wk.nil) (nn_mb fun _ => nn_er) (ss_for (L := fun (s488 : Unit) => [.nw p "Beads" [("strengths", (eT eI) strengths483), ("lengths", (eT eI) j486), ("ring", eB ring487)], .fr ((eT eI) strengths), .fr ((eT eI) lengths), .fr (eB ring), .un]) () C (i_range1 rfl T.n_range (pa_cons (e_lenT (enc := eI) T.n_len (pa_cons (e_sfld (z := strengths483) (enc := (eT eI)) 0 rfl (pv 0) T.cl_Beads T.na_Beads_strengths (by rfl)) pa_nil)) pa_nil)) (g_name (enc := eI) (i := 4) C.nd) (wk_e (wk_e (wk_e (wk_e (wk_u wk_n))))) Wk.nil (fun place489 s488 => (ss_ifX (t_w (w_or (t_cmp c_lt (b_e (e_ixT (enc := eI) (e_sfld (z := strengths483) (enc := (eT eI)) 0 rfl (pv 0) T.cl_Beads T.na_Beads_strengths (by rfl)) (e_var (z := place489) (enc := eI) 4 rfl (pv 4)))) (b_e e_int) rfl) (w_or1 (t_cmp c_lt (b_e (e_ixT (enc := eI) (e_sfld (z := j486) (enc := (eT eI)) 0 rfl (pv 0) T.cl_Beads T.na_Beads_lengths (by rfl)) (e_var (z := place489) (enc := eI) 4 rfl (pv 4)))) (b_e e_int) rfl)))) (ss_raise1 (enc := eI) C (by decide) T.x_BadBeads (okI_BadBeads T) T.xb_BadBeads (pa_cons (e_var (z := place489) (enc := eI) 4 rfl (pv 4)) pa_nil) Wk.nil) (nn_mb fun _ => nn_er) (ss_nil (b := ()) (wk_e (wk_e (wk_e (wk_e (wk_u wk_n)))))) Wk.nil)) (fun s494 => (ss_nil (b := (⟨strengths483, j486, ring487⟩ : BV)) (wk_e wk_n)))) Wk.nil)) Wk.nil)) Wk.nil)) Wk.nil) (by simp only [mbk, mba, sqk, sqa, c_Beads___init___v2])) fun _ => rfl
theorem ok_Beads___mul__ (T : Tx K mg ca fa fd) : FnOk P w K mg base (L2N.CX P w) 6 (fa 18) (fd 18) ["self", "times"] (spE K ca (xC eBeads (xC eI xN)) eBeads fun a => f_Beads___mul__ a.1 a.2.1) :=
  fn_E (d := .no) (fn_ok (k := 5) (n := 0) (Nx := fun _ _ => []) (L := fun _ (_ : Empty) => []) (R := fun r : BV => .fr (eBeads r)) (encA := (xC eBeads (xC eI xN))) (code := fun a => c_Beads___mul__ a.1 a.2.1) T.F_Beads___mul__ sc_Beads___mul__ (fun _ => rfl) rfl fun cdv A outer s G H E a C => by
    obtain ⟨self, times, u0⟩ := a
    show DSs _ _ [.fr (eBeads self), .fr (eI times)] _ _ _ _ _
    exact ss_eq (ss_ret (enc := eBeads) (g := fun z => z) (e_make C (by decide) (fun _ _ _ _ _ h => h) T.mk_Beads (ok_Beads___init___v2 T) T.g_Beads T.kb_Beads_3_ring (x_cons (e_repT (enc := eI) (e_fld (g := fun z : BV => z.strengths) (enb := (eT eI)) (e_var (z := self) (enc := eBeads) 0 rfl (pv 0)) T.cl_Beads T.na_Beads_strengths fC_Beads_strengths) (e_var (z := times) (enc := eI) 1 rfl (pv 1))) (x_cons (e_repT (enc := eI) (e_fld (g := fun z : BV => z.lengths) (enb := (eT eI)) (e_var (z := self) (enc := eBeads) 0 rfl (pv 0)) T.cl_Beads T.na_Beads_lengths fC_Beads_lengths) (e_var (z := times) (enc := eI) 1 rfl (pv 1))) x_nil)) (k_cons (e_fld (g := fun z : BV => z.ring) (enb := eB) (e_var (z := self) (enc := eBeads) 0 rfl (pv 0)) T.cl_Beads T.na_Beads_ring fC_Beads_ring) k_nil) (fun _ => rfl) (fun _ => rfl) (a3 (mk := fun (z : _ × _ × Unit) (y : _ × Unit) => (z.1, z.2.1, y.1, ())) fun _ _ => rfl)) Wk.nil (fun _ => rfl)) (by simp only [mbk, mba, sqk, sqa, c_Beads___mul__])) (.inl rfl)
theorem ok__law_numbers_v1 (T : Tx K mg ca fa fd) : FnOk P w K mg base (L2N.CX P w) 2 (fa 15) (fd 15) ["actual", "due", "as_tuple"] (spE K ca (xC (eT eI) (xL eI (xC eB xN))) eB fun a => f__law_numbers_v1 a.1 a.2.1 a.2.2.1) :=
  fn_E (d := .no) (fn_ok (k := 1) (n := 1) (Nx := fun _ _ => []) (L := fun _ (_ : Empty) => []) (R := fun r : Bool => .fr (eB r)) (encA := (xC (eT eI) (xL eI (xC eB xN)))) (code := fun a => c__law_numbers_v1 a.1 a.2.1 a.2.2.1) T.F__law_numbers sc__law_numbers (fun _ => rfl) rfl fun cdv A outer s G H E a C => by
    obtain ⟨actual, due, as_tuple, u0⟩ := a
    show DSs _ _ [.fr ((eT eI) actual), .ln (List.map eI due), .fr (eB as_tuple), .un] _ _ _ _ _
    exact ss_eq (ss_ifX (t_w (w_orP (t_w (w_andP (t_val (e_var (z := as_tuple) (enc := eB) 2 rfl (pv 2))) (w_and1 (t_not (t_val (e_isi T.n_isinstance (.ty "tuple") (ty_tup (r := true) (by decide +kernel)) (pa_cons (b_e (e_var (z := actual) (enc := (eT eI)) 0 rfl (pv 0))) (pa_cons (pe_bltn (v := .ty "tuple") rfl T.n_tuple boot_tuple rfl) pa_nil)))))) rfl)) (w_or1 (t_w (w_andP (t_not (t_val (e_var (z := as_tuple) (enc := eB) 2 rfl (pv 2)))) (w_and1 (t_not (t_val (e_isi T.n_isinstance (.ty "list") (ty_tup (r := false) (by decide +kernel)) (pa_cons (b_e (e_var (z := actual) (enc := (eT eI)) 0 rfl (pv 0))) (pa_cons (pe_bltn (v := .ty "list") rfl T.n_list boot_list rfl) pa_nil)))))) rfl))) rfl)) (ss_ret (enc := eB) (g := fun z => z) e_bl Wk.nil (fun _ => rfl)) (nn_mb fun _ => nn_rt) (ss_ifX (t_cmp c_ne (b_e (e_lenT (enc := eI) T.n_len (pa_cons (e_var (z := actual) (enc := (eT eI)) 0 rfl (pv 0)) pa_nil))) (b_e (e_lenL (enc := eI) T.n_len (pa_cons (l_var (z := due) (enc := eI) 1 rfl (pv 1)) pa_nil))) rfl) (ss_ret (enc := eB) (g := fun z => z) e_bl Wk.nil (fun _ => rfl)) (nn_mb fun _ => nn_rt) (ss_for (L := fun (s512 : Unit) => [.fr ((eT eI) actual), .ln (List.map eI due), .fr (eB as_tuple), .un]) () C (i_range1 rfl T.n_range (pa_cons (e_lenL (enc := eI) T.n_len (pa_cons (l_var (z := due) (enc := eI) 1 rfl (pv 1)) pa_nil)) pa_nil)) (g_name (enc := eI) (i := 3) C.nd) (wk_e (wk_e (wk_e (wk_u wk_n)))) Wk.nil (fun k513 s512 => (ss_ifX (t_w (w_or (t_not (t_val (e_call C (by decide) (ok__law_is_integer T) T.g__law_is_integer T.k__law_is_integer T.b__law_is_integer (x_cons (e_ixT (enc := eI) (e_var (z := actual) (enc := (eT eI)) 0 rfl (pv 0)) (e_var (z := k513) (enc := eI) 3 rfl (pv 3))) x_nil)))) (w_or1 (t_cmp c_ne (b_e (e_ixT (enc := eI) (e_var (z := actual) (enc := (eT eI)) 0 rfl (pv 0)) (e_var (z := k513) (enc := eI) 3 rfl (pv 3)))) (b_e (e_ixL (enc := eI) (l_var (z := due) (enc := eI) 1 rfl (pv 1)) (e_var (z := k513) (enc := eI) 3 rfl (pv 3)))) rfl)))) (ss_ret (enc := eB) (g := fun z => z) e_bl Wk.nil (fun _ => rfl)) (nn_mb fun _ => nn_rt) (ss_nil (b := ()) (wk_e (wk_e (wk_e (wk_u wk_n))))) Wk.nil)) (fun s520 => (ss_ret (enc := eB) (g := fun z => z) e_bl Wk.nil (fun _ => rfl)))) Wk.nil) Wk.nil) (by simp only [mbk, mba, sqk, sqa, c__law_numbers_v1])) (.inl rfl)
theorem ok__law_is_standing (T : Tx K mg ca fa fd) : FnOk P w K mg base (L2N.CX P w) 3 (fa 19) (fd 19) ["actual", "round_flag", "sizes", "strengths"] (spE K ca (xC eBeads (xC eB (xL eI (xL eI xN)))) eB fun a => f__law_is_standing a.1 a.2.1 a.2.2.1 a.2.2.2.1) :=
  fn_E (d := .no) (fn_ok (k := 2) (n := 0) (Nx := fun _ _ => []) (L := fun _ (_ : Empty) => []) (R := fun r : Bool => .fr (eB r)) (encA := (xC eBeads (xC eB (xL eI (xL eI xN))))) (code := fun a => c__law_is_standing a.1 a.2.1 a.2.2.1 a.2.2.2.1) T.F__law_is_standing sc__law_is_standing (fun _ => rfl) rfl fun cdv A outer s G H E a C => by
    obtain ⟨actual, round_flag, sizes, strengths, u0⟩ := a
    show DSs _ _ [.fr (eBeads actual), .fr (eB round_flag), .ln (List.map eI sizes), .ln (List.map eI strengths)] _ _ _ _ _
    exact ss_eq (ss_ifX (t_w (w_orP (t_not (t_val (e_isi T.n_isinstance (.own (ca "Beads")) (ty_obj (enc := eBeads) T.is_Beads (fun _ => rfl) kit_self) (pa_cons (b_e (e_var (z := actual) (enc := eBeads) 0 rfl (pv 0))) (pa_cons (pe_glob rfl T.g_Beads rfl) pa_nil))))) (w_orP (t_not (t_val (e_isi T.n_isinstance (.ty "bool") (ty_bl (r := true) (by decide +kernel)) (pa_cons (b_e (e_fld (g := fun z : BV => z.ring) (enb := eB) (e_var (z := actual) (enc := eBeads) 0 rfl (pv 0)) T.cl_Beads T.na_Beads_ring fC_Beads_ring)) (pa_cons (pe_bltn (v := .ty "bool") rfl T.n_bool boot_bool rfl) pa_nil))))) (w_or1 (t_cmp c_neB (b_e (e_fld (g := fun z : BV => z.ring) (enb := eB) (e_var (z := actual) (enc := eBeads) 0 rfl (pv 0)) T.cl_Beads T.na_Beads_ring fC_Beads_ring)) (b_e (e_var (z := round_flag) (enc := eB) 1 rfl (pv 1))) rfl)) rfl) rfl)) (ss_ret (enc := eB) (g := fun z => z) e_bl Wk.nil (fun _ => rfl)) (nn_mb fun _ => nn_rt) (ss_ret (enc := eB) (g := fun z => z) (e_and (e_call C (by decide) (ok__law_numbers_v1 T) T.g__law_numbers T.k__law_numbers T.b__law_numbers (x_cons (e_fld (g := fun z : BV => z.lengths) (enb := (eT eI)) (e_var (z := actual) (enc := eBeads) 0 rfl (pv 0)) T.cl_Beads T.na_Beads_lengths fC_Beads_lengths) (x_consL (l_var (z := sizes) (enc := eI) 2 rfl (pv 2)) (x_cons e_bl x_nil)))) (e_one (e_call C (by decide) (ok__law_numbers_v1 T) T.g__law_numbers T.k__law_numbers T.b__law_numbers (x_cons (e_fld (g := fun z : BV => z.strengths) (enb := (eT eI)) (e_var (z := actual) (enc := eBeads) 0 rfl (pv 0)) T.cl_Beads T.na_Beads_strengths fC_Beads_strengths) (x_consL (l_var (z := strengths) (enc := eI) 3 rfl (pv 3)) (x_cons e_bl x_nil)))))) Wk.nil (fun _ => rfl)) Wk.nil) (by simp only [mbk, mba, sqk, sqa, c__law_is_standing])) (.inl rfl)
theorem ok_Beads_total (T : Tx K mg ca fa fd) : FnOk P w K mg base (L2N.CX P w) 1 (fa 20) (fd 20) ["self"] (spE K ca (xC eBeads xN) eI fun a => f_Beads_total a.1) :=
  fn_E (d := .no) (fn_ok (k := 0) (n := 0) (Nx := fun _ _ => []) (L := fun _ (_ : Empty) => []) (R := fun r : Int => .fr (eI r)) (encA := (xC eBeads xN)) (code := fun a => c_Beads_total a.1) T.F_Beads_total sc_Beads_total (fun _ => rfl) rfl fun cdv A outer s G H E a C => by
    obtain ⟨self, u0⟩ := a
    show DSs _ _ [.fr (eBeads self)] _ _ _ _ _
    exact ss_eq (ss_ret (enc := eI) (g := fun z => z) (e_sumT C.calm T.n_sum (pa_cons (e_fld (g := fun z : BV => z.lengths) (enb := (eT eI)) (e_var (z := self) (enc := eBeads) 0 rfl (pv 0)) T.cl_Beads T.na_Beads_lengths fC_Beads_lengths) pa_nil)) Wk.nil (fun _ => rfl)) (by simp only [mbk, mba, sqk, sqa, c_Beads_total])) (.inl rfl)
theorem ok_Beads_greatest (T : Tx K mg ca fa fd) : FnOk P w K mg base (L2N.CX P w) 1 (fa 21) (fd 21) ["self"] (spE K ca (xC eBeads xN) eI fun a => f_Beads_greatest a.1) :=
  fn_E (d := .no) (fn_ok (k := 0) (n := 0) (Nx := fun _ _ => []) (L := fun _ (_ : Empty) => []) (R := fun r : Int => .fr (eI r)) (encA := (xC eBeads xN)) (code := fun a => c_Beads_greatest a.1) T.F_Beads_greatest sc_Beads_greatest (fun _ => rfl) rfl fun cdv A outer s G H E a C => by
    obtain ⟨self, u0⟩ := a
    show DSs _ _ [.fr (eBeads self)] _ _ _ _ _
    exact ss_eq (ss_ret (enc := eI) (g := fun z => z) (e_maxT C.calm (by have := C.room.units; omega) T.n_max (pa_cons (e_fld (g := fun z : BV => z.strengths) (enb := (eT eI)) (e_var (z := self) (enc := eBeads) 0 rfl (pv 0)) T.cl_Beads T.na_Beads_strengths fC_Beads_strengths) pa_nil)) Wk.nil (fun _ => rfl)) (by simp only [mbk, mba, sqk, sqa, c_Beads_greatest])) (.inl rfl)
theorem ok__law_is_counted (T : Tx K mg ca fa fd) : FnOk P w K mg base (L2N.CX P w) 6 (fa 22) (fd 22) ["beads", "sizes", "strengths"] (spE K ca (xC eBeads (xL eI (xL eI xN))) eB fun a => f__law_is_counted a.1 a.2.1 a.2.2.1) :=
  fn_E (d := .no) (fn_ok (k := 5) (n := 2) (Nx := fun _ _ => []) (L := fun _ (_ : Empty) => []) (R := fun r : Bool => .fr (eB r)) (encA := (xC eBeads (xL eI (xL eI xN)))) (code := fun a => c__law_is_counted a.1 a.2.1 a.2.2.1) T.F__law_is_counted sc__law_is_counted (fun _ => rfl) rfl fun cdv A outer s G H E a C => by
    obtain ⟨beads, sizes, strengths, u0⟩ := a
    show DSs _ _ [.fr (eBeads beads), .ln (List.map eI sizes), .ln (List.map eI strengths), .un, .un] _ _ _ _ _
    exact ss_eq (ss_asg (enc := eI) (i := 3) C.nd (e_meth0 C (by decide) (e_var (z := beads) (enc := eBeads) 0 rfl (pv 0)) T.cl_Beads T.m_Beads_total (ok_Beads_total T) T.b_Beads_total (fun _ => ⟨rfl, by rfl⟩) denF_none) (fun total541 => (ss_asg (enc := eI) (i := 4) C.nd (e_meth0 C (by decide) (e_var (z := beads) (enc := eBeads) 0 rfl (pv 0)) T.cl_Beads T.m_Beads_greatest (ok_Beads_greatest T) T.b_Beads_greatest (fun _ => ⟨rfl, by rfl⟩) denF_none) (fun greatest542 => (ss_ifX (t_w (w_orP (t_not (t_val (e_call C (by decide) (ok__law_is_integer T) T.g__law_is_integer T.k__law_is_integer T.b__law_is_integer (x_cons (e_var (z := total541) (enc := eI) 3 rfl (pv 3)) x_nil)))) (w_or1 (t_cmp c_ne (b_e (e_var (z := total541) (enc := eI) 3 rfl (pv 3))) (b_e (e_sum C.calm T.n_sum (pa_cons (l_var (z := sizes) (enc := eI) 1 rfl (pv 1)) pa_nil))) rfl)) rfl)) (ss_ret (enc := eB) (g := fun z => z) e_bl Wk.nil (fun _ => rfl)) (nn_mb fun _ => nn_rt) (ss_ifX (t_w (w_or (t_not (t_val (e_call C (by decide) (ok__law_is_integer T) T.g__law_is_integer T.k__law_is_integer T.b__law_is_integer (x_cons (e_var (z := greatest542) (enc := eI) 4 rfl (pv 4)) x_nil)))) (w_or1 (t_cmp c_ne (b_e (e_var (z := greatest542) (enc := eI) 4 rfl (pv 4))) (b_e (e_maxL C.calm T.n_max (pa_cons (l_var (z := strengths) (enc := eI) 2 rfl (pv 2)) pa_nil))) rfl)))) (ss_ret (enc := eB) (g := fun z => z) e_bl Wk.nil (fun _ => rfl)) (nn_mb fun _ => nn_rt) (ss_ret (enc := eB) (g := fun z => z) (e_and (e_cmp c_eq (b_e (e_lenO C (by decide) T.n_len T.cl_Beads T.m_Beads___len__.at_ T.m_Beads___len__.fn (ok_Beads___len__ T) T.b_Beads___len__ (fun z => (rfl : eBeads z = _)) (fun _ _ h => ok_ne h) (pa_cons (e_var (z := beads) (enc := eBeads) 0 rfl (pv 0)) pa_nil))) (b_e (e_lenL (enc := eI) T.n_len (pa_cons (l_var (z := sizes) (enc := eI) 1 rfl (pv 1)) pa_nil))) rfl) (e_one (e_call C (by decide) (ok__law_numbers T) T.g__law_numbers T.k__law_numbers T.b__law_numbers (x_consL (b_e (e_o (o_listObj C (by decide) (by decide) T.n_list T.m_Beads___iter__.at_ T.m_Beads___iter__.fn T.m_Beads___len__.at_ T.m_Beads___len__.fn (ok_Beads___iter__ T) T.b_Beads___iter__ (ok_Beads___len__ T) T.b_Beads___len__ (fun z => fC_Beads_strengths z) (fun _ _ h => ok_ne h) (pa_cons (e_var (z := beads) (enc := eBeads) 0 rfl (pv 0)) pa_nil)))) (x_consL (l_var (z := strengths) (enc := eI) 2 rfl (pv 2)) (x_cons e_bl x_nil)))))) Wk.nil (fun _ => rfl)) Wk.nil) Wk.nil)) Wk.nil)) Wk.nil) (by simp only [mbk, mba, sqk, sqa, c__law_is_counted])) (.inl rfl)
theorem ok__law_is_repeated (T : Tx K mg ca fa fd) : FnOk P w K mg base (L2N.CX P w) 8 (fa 23) (fd 23) ["beads", "round_flag", "sizes", "strengths", "times"] (spE K ca (xC eBeads (xC eB (xL eI (xL eI (xC eI xN))))) eB fun a => f__law_is_repeated a.1 a.2.1 a.2.2.1 a.2.2.2.1 a.2.2.2.2.1) :=
  fn_E (d := .no) (fn_ok (k := 7) (n := 2) (Nx := fun _ _ => []) (L := fun _ (_ : Empty) => []) (R := fun r : Bool => .fr (eB r)) (encA := (xC eBeads (xC eB (xL eI (xL eI (xC eI xN)))))) (code := fun a => c__law_is_repeated a.1 a.2.1 a.2.2.1 a.2.2.2.1 a.2.2.2.2.1) T.F__law_is_repeated sc__law_is_repeated (fun _ => rfl) rfl fun cdv A outer s G H E a C => by
    obtain ⟨beads, round_flag, sizes, strengths, times, u0⟩ := a
    show DSs _ _ [.fr (eBeads beads), .fr (eB round_flag), .ln (List.map eI sizes), .ln (List.map eI strengths), .fr (eI times), .un, .un] _ _ _ _ _
    exact ss_eq (ss_asg (enc := eBeads) (i := 5) C.nd (e_mulO (enc := eBeads) (enr := eBeads) C (by decide) (fun _ _ _ _ _ h => h) T.sf_Beads T.bm_Beads T.m_Beads___mul__.at_ T.m_Beads___mul__.fn (ok_Beads___mul__ T) T.b_Beads___mul__ (fun z => (rfl : eBeads z = _)) (fun z => (rfl : eBeads z = _)) (e_var (z := beads) (enc := eBeads) 0 rfl (pv 0)) (e_var (z := times) (enc := eI) 4 rfl (pv 4))) (fun copies571 => (ss_ifX (t_not (t_val (e_call C (by decide) (ok__law_is_standing T) T.g__law_is_standing T.k__law_is_standing T.b__law_is_standing (x_cons (e_var (z := copies571) (enc := eBeads) 5 rfl (pv 5)) (x_cons (e_var (z := round_flag) (enc := eB) 1 rfl (pv 1)) (x_consL (b_e (e_o (o_rep (enc := eI) (l_var (z := sizes) (enc := eI) 2 rfl (pv 2)) (e_var (z := times) (enc := eI) 4 rfl (pv 4))))) (x_consL (b_e (e_o (o_rep (enc := eI) (l_var (z := strengths) (enc := eI) 3 rfl (pv 3)) (e_var (z := times) (enc := eI) 4 rfl (pv 4))))) x_nil))))))) (ss_ret (enc := eB) (g := fun z => z) e_bl Wk.nil (fun _ => rfl)) (nn_mb fun _ => nn_rt) (ss_ifX (t_not (t_val (e_call C (by decide) (ok__law_is_counted T) T.g__law_is_counted T.k__law_is_counted T.b__law_is_counted (x_cons (e_var (z := copies571) (enc := eBeads) 5 rfl (pv 5)) (x_consL (b_e (e_o (o_rep (enc := eI) (l_var (z := sizes) (enc := eI) 2 rfl (pv 2)) (e_var (z := times) (enc := eI) 4 rfl (pv 4))))) (x_consL (b_e (e_o (o_rep (enc := eI) (l_var (z := strengths) (enc := eI) 3 rfl (pv 3)) (e_var (z := times) (enc := eI) 4 rfl (pv 4))))) x_nil)))))) (ss_ret (enc := eB) (g := fun z => z) e_bl Wk.nil (fun _ => rfl)) (nn_mb fun _ => nn_rt) (ss_if (N := fun (j588 : List Int) => [.fr (eBeads beads), .fr (eB round_flag), .ln (List.map eI sizes), .ln (List.map eI strengths), .fr (eI times), .fr (eBeads copies571), .ow (List.map eI j588)]) (t_val (e_var (z := round_flag) (enc := eB) 1 rfl (pv 1))) (ss_asgO (i := 6) C.nd (o_rep (enc := eI) (b_e (e_o (o_call C (by decide) (ok__law_all T) T.g__law_all T.k__law_all T.b__law_all (x_cons e_bl (x_consL (l_var (z := sizes) (enc := eI) 2 rfl (pv 2)) (x_consL (l_var (z := strengths) (enc := eI) 3 rfl (pv 3)) x_nil)))))) (e_var (z := times) (enc := eI) 4 rfl (pv 4))) (fun due584 => (ss_nil (b := due584) (wk_e (wk_e (wk_e (wk_e (wk_e (wk_e (wk_e wk_n))))))))) Wk.nil) (ss_asgO (i := 6) C.nd (o_call C (by decide) (ok__law_all T) T.g__law_all T.k__law_all T.b__law_all (x_cons e_bl (x_consL (b_e (e_o (o_rep (enc := eI) (l_var (z := sizes) (enc := eI) 2 rfl (pv 2)) (e_var (z := times) (enc := eI) 4 rfl (pv 4))))) (x_consL (b_e (e_o (o_rep (enc := eI) (l_var (z := strengths) (enc := eI) 3 rfl (pv 3)) (e_var (z := times) (enc := eI) 4 rfl (pv 4))))) x_nil)))) (fun due587 => (ss_nil (b := due587) (wk_e (wk_e (wk_e (wk_e (wk_e (wk_e (wk_e wk_n))))))))) Wk.nil) (fun j588 => (ss_ret (enc := eB) (g := fun z => z) (e_call C (by decide) (ok__law_numbers T) T.g__law_numbers T.k__law_numbers T.b__law_numbers (x_consL (b_e (e_o (o_call C (by decide) (ok_reaches T) T.g_reaches T.k_reaches T.b_reaches (x_cons (e_var (z := copies571) (enc := eBeads) 5 rfl (pv 5)) x_nil)))) (x_consL (b_var (z := j588) (enc := eI) 6 rfl (pv 6)) (x_cons e_bl x_nil)))) Wk.nil (fun _ => rfl))) Wk.nil) Wk.nil) Wk.nil)) Wk.nil) (by simp only [mbk, mba, sqk, sqa, c__law_is_repeated])) (.inl rfl)
theorem ok_Beads___add__ (T : Tx K mg ca fa fd) : FnOk P w K mg base (L2N.CX P w) 6 (fa 24) (fd 24) ["self", "other"] (spE K ca (xC eBeads (xC eBeads xN)) eBeads fun a => f_Beads___add__ a.1 a.2.1) :=
  fn_E (d := .no) (fn_ok (k := 5) (n := 0) (Nx := fun _ _ => []) (L := fun _ (_ : Empty) => []) (R := fun r : BV => .fr (eBeads r)) (encA := (xC eBeads (xC eBeads xN))) (code := fun a => c_Beads___add__ a.1 a.2.1) T.F_Beads___add__ sc_Beads___add__ (fun _ => rfl) rfl fun cdv A outer s G H E a C => by
    obtain ⟨self, other, u0⟩ := a
    show DSs _ _ [.fr (eBeads self), .fr (eBeads other)] _ _ _ _ _
    exact ss_eq (ss_ifX (t_cmp c_neB (b_e (e_fld (g := fun z : BV => z.ring) (enb := eB) (e_var (z := self) (enc := eBeads) 0 rfl (pv 0)) T.cl_Beads T.na_Beads_ring fC_Beads_ring)) (b_e (e_fld (g := fun z : BV => z.ring) (enb := eB) (e_var (z := other) (enc := eBeads) 1 rfl (pv 1)) T.cl_Beads T.na_Beads_ring fC_Beads_ring)) rfl) (ss_raise1 (enc := eB) C (by decide) T.x_WrongKind (okI_WrongKind T) T.xb_WrongKind (pa_cons (e_fld (g := fun z : BV => z.ring) (enb := eB) (e_var (z := other) (enc := eBeads) 1 rfl (pv 1)) T.cl_Beads T.na_Beads_ring fC_Beads_ring) pa_nil) Wk.nil) (nn_mb fun _ => nn_er) (ss_ret (enc := eBeads) (g := fun z => z) (e_make C (by decide) (fun _ _ _ _ _ h => h) T.mk_Beads (ok_Beads___init___v2 T) T.g_Beads T.kb_Beads_3_ring (x_cons (e_catT (enc := eI) (e_fld (g := fun z : BV => z.strengths) (enb := (eT eI)) (e_var (z := self) (enc := eBeads) 0 rfl (pv 0)) T.cl_Beads T.na_Beads_strengths fC_Beads_strengths) (e_fld (g := fun z : BV => z.strengths) (enb := (eT eI)) (e_var (z := other) (enc := eBeads) 1 rfl (pv 1)) T.cl_Beads T.na_Beads_strengths fC_Beads_strengths)) (x_cons (e_catT (enc := eI) (e_fld (g := fun z : BV => z.lengths) (enb := (eT eI)) (e_var (z := self) (enc := eBeads) 0 rfl (pv 0)) T.cl_Beads T.na_Beads_lengths fC_Beads_lengths) (e_fld (g := fun z : BV => z.lengths) (enb := (eT eI)) (e_var (z := other) (enc := eBeads) 1 rfl (pv 1)) T.cl_Beads T.na_Beads_lengths fC_Beads_lengths)) x_nil)) (k_cons (e_fld (g := fun z : BV => z.ring) (enb := eB) (e_var (z := self) (enc := eBeads) 0 rfl (pv 0)) T.cl_Beads T.na_Beads_ring fC_Beads_ring) k_nil) (fun _ => rfl) (fun _ => rfl) (a3 (mk := fun (z : _ × _ × Unit) (y : _ × Unit) => (z.1, z.2.1, y.1, ())) fun _ _ => rfl)) Wk.nil (fun _ => rfl)) Wk.nil) (by simp only [mbk, mba, sqk, sqa, c_Beads___add__])) (.inl rfl)
theorem ok__law_is_joined (T : Tx K mg ca fa fd) : FnOk P w K mg base (L2N.CX P w) 8 (fa 25) (fd 25) ["beads", "other", "round_flag", "sizes", "strengths", "given"] (spE K ca (xC eBeads (xC eBeads (xC eB (xL eI (xL eI (xL (eL eI) xN)))))) eB fun a => f__law_is_joined a.1 a.2.1 a.2.2.1 a.2.2.2.1 a.2.2.2.2.1 a.2.2.2.2.2.1) :=
  fn_E (d := .no) (fn_ok (k := 7) (n := 2) (Nx := fun _ _ => []) (L := fun _ (_ : Empty) => []) (R := fun r : Bool => .fr (eB r)) (encA := (xC eBeads (xC eBeads (xC eB (xL eI (xL eI (xL (eL eI) xN))))))) (code := fun a => c__law_is_joined a.1 a.2.1 a.2.2.1 a.2.2.2.1 a.2.2.2.2.1 a.2.2.2.2.2.1) T.F__law_is_joined sc__law_is_joined (fun _ => rfl) rfl fun cdv A outer s G H E a C => by
    obtain ⟨beads, other, round_flag, sizes, strengths, given, u0⟩ := a
    show DSs _ _ [.fr (eBeads beads), .fr (eBeads other), .fr (eB round_flag), .ln (List.map eI sizes), .ln (List.map eI strengths), .ln (List.map (eL eI) given), .un, .un] _ _ _ _ _
    exact ss_eq (ss_asg (enc := eBeads) (i := 6) C.nd (e_addO (enc := eBeads) (enb := eBeads) (enr := eBeads) C (by decide) (fun _ _ _ _ _ h => h) T.sf_Beads T.m_Beads___add__.at_ T.m_Beads___add__.fn (ok_Beads___add__ T) T.b_Beads___add__ (fun z => (rfl : eBeads z = _)) (fun z => (rfl : eBeads z = _)) (fun z => (rfl : eBeads z = _)) (e_var (z := beads) (enc := eBeads) 0 rfl (pv 0)) (e_var (z := other) (enc := eBeads) 1 rfl (pv 1))) (fun joined621 => (ss_ifX (t_not (t_val (e_call C (by decide) (ok__law_is_standing T) T.g__law_is_standing T.k__law_is_standing T.b__law_is_standing (x_cons (e_var (z := joined621) (enc := eBeads) 6 rfl (pv 6)) (x_cons (e_var (z := round_flag) (enc := eB) 2 rfl (pv 2)) (x_consL (b_e (e_o (o_cat (enc := eI) (l_var (z := sizes) (enc := eI) 3 rfl (pv 3)) (b_e (e_ixL (enc := (eL eI)) (l_var (z := given) (enc := (eL eI)) 5 rfl (pv 5)) e_int))))) (x_consL (b_e (e_o (o_cat (enc := eI) (l_var (z := strengths) (enc := eI) 4 rfl (pv 4)) (b_e (e_ixL (enc := (eL eI)) (l_var (z := given) (enc := (eL eI)) 5 rfl (pv 5)) e_int))))) x_nil))))))) (ss_ret (enc := eB) (g := fun z => z) e_bl Wk.nil (fun _ => rfl)) (nn_mb fun _ => nn_rt) (ss_ifX (t_not (t_val (e_call C (by decide) (ok__law_is_counted T) T.g__law_is_counted T.k__law_is_counted T.b__law_is_counted (x_cons (e_var (z := joined621) (enc := eBeads) 6 rfl (pv 6)) (x_consL (b_e (e_o (o_cat (enc := eI) (l_var (z := sizes) (enc := eI) 3 rfl (pv 3)) (b_e (e_ixL (enc := (eL eI)) (l_var (z := given) (enc := (eL eI)) 5 rfl (pv 5)) e_int))))) (x_consL (b_e (e_o (o_cat (enc := eI) (l_var (z := strengths) (enc := eI) 4 rfl (pv 4)) (b_e (e_ixL (enc := (eL eI)) (l_var (z := given) (enc := (eL eI)) 5 rfl (pv 5)) e_int))))) x_nil)))))) (ss_ret (enc := eB) (g := fun z => z) e_bl Wk.nil (fun _ => rfl)) (nn_mb fun _ => nn_rt) (ss_asgO (i := 7) C.nd (o_call C (by decide) (ok_reaches T) T.g_reaches T.k_reaches T.b_reaches (x_cons (e_var (z := joined621) (enc := eBeads) 6 rfl (pv 6)) x_nil)) (fun told632 => (ss_ifX (t_not (t_val (e_call C (by decide) (ok__law_numbers T) T.g__law_numbers T.k__law_numbers T.b__law_numbers (x_consL (b_var (z := told632) (enc := eI) 7 rfl (pv 7)) (x_consL (b_e (e_o (o_call C (by decide) (ok__law_all T) T.g__law_all T.k__law_all T.b__law_all (x_cons (e_var (z := round_flag) (enc := eB) 2 rfl (pv 2)) (x_consL (b_e (e_o (o_cat (enc := eI) (l_var (z := sizes) (enc := eI) 3 rfl (pv 3)) (b_e (e_ixL (enc := (eL eI)) (l_var (z := given) (enc := (eL eI)) 5 rfl (pv 5)) e_int))))) (x_consL (b_e (e_o (o_cat (enc := eI) (l_var (z := strengths) (enc := eI) 4 rfl (pv 4)) (b_e (e_ixL (enc := (eL eI)) (l_var (z := given) (enc := (eL eI)) 5 rfl (pv 5)) e_int))))) x_nil)))))) (x_cons e_bl x_nil)))))) (ss_ret (enc := eB) (g := fun z => z) e_bl Wk.nil (fun _ => rfl)) (nn_mb fun _ => nn_rt) (ss_ret (enc := eB) (g := fun z => z) (e_or (e_var (z := round_flag) (enc := eB) 2 rfl (pv 2)) (e_one (e_call C (by decide) (ok__law_numbers T) T.g__law_numbers T.k__law_numbers T.b__law_numbers (x_consL (b_e (e_o (o_call C (by decide) (ok_reaches T) T.g_reaches T.k_reaches T.b_reaches (x_cons (e_var (z := other) (enc := eBeads) 1 rfl (pv 1)) x_nil)))) (x_consL (b_e (e_o (o_cutL (enc := eI) (b_var (z := told632) (enc := eI) 7 rfl (pv 7)) (p_some (e_lenL (enc := eI) T.n_len (pa_cons (l_var (z := sizes) (enc := eI) 3 rfl (pv 3)) pa_nil))) p_none))) (x_cons e_bl x_nil)))))) Wk.nil (fun _ => rfl)) Wk.nil)) Wk.nil) Wk.nil) Wk.nil)) Wk.nil) (by simp only [mbk, mba, sqk, sqa, c__law_is_joined])) (.inl rfl)
theorem ok__law_sum (T : Tx K mg ca fa fd) : FnOk P w K mg base (L2N.CX P w) 7 (fa 26) (fd 26) ["beads", "other"] (spE K ca (xC eBeads (xC eBeads xN)) eBeads fun a => f__law_sum a.1 a.2.1) :=
  fn_E (d := .no) (fn_ok (k := 6) (n := 0) (Nx := fun _ _ => []) (L := fun _ (_ : Empty) => []) (R := fun r : BV => .fr (eBeads r)) (encA := (xC eBeads (xC eBeads xN))) (code := fun a => c__law_sum a.1 a.2.1) T.F__law_sum sc__law_sum (fun _ => rfl) rfl fun cdv A outer s G H E a C => by
    obtain ⟨beads, other, u0⟩ := a
    show DSs _ _ [.fr (eBeads beads), .fr (eBeads other)] _ _ _ _ _
    exact ss_eq (ss_ret (enc := eBeads) (g := fun z => z) (e_addO (enc := eBeads) (enb := eBeads) (enr := eBeads) C (by decide) (fun _ _ _ _ _ h => h) T.sf_Beads T.m_Beads___add__.at_ T.m_Beads___add__.fn (ok_Beads___add__ T) T.b_Beads___add__ (fun z => (rfl : eBeads z = _)) (fun z => (rfl : eBeads z = _)) (fun z => (rfl : eBeads z = _)) (e_var (z := beads) (enc := eBeads) 0 rfl (pv 0)) (e_var (z := other) (enc := eBeads) 1 rfl (pv 1))) Wk.nil (fun _ => rfl)) (by simp only [mbk, mba, sqk, sqa, c__law_sum])) (.inl rfl)
theorem ok__law_is_unlike (T : Tx K mg ca fa fd) : FnOk P w K mg base (L2N.CX P w) 8 (fa 27) (fd 27) ["beads", "other", "due"] (spE K ca (xC eBeads (xC eBeads (xC eB xN))) eB fun a => f__law_is_unlike a.1 a.2.1 a.2.2.1) :=
  fn_E (d := .no) (fn_ok (k := 7) (n := 1) (Nx := fun _ _ => []) (L := fun _ (_ : Empty) => []) (R := fun r : Bool => .fr (eB r)) (encA := (xC eBeads (xC eBeads (xC eB xN)))) (code := fun a => c__law_is_unlike a.1 a.2.1 a.2.2.1) T.F__law_is_unlike sc__law_is_unlike (fun _ => rfl) rfl fun cdv A outer s G H E a C => by
    obtain ⟨beads, other, due, u0⟩ := a
    show DSs _ _ [.fr (eBeads beads), .fr (eBeads other), .fr (eB due), .un] _ _ _ _ _
    exact ss_eq (ss_tryC (ss_try (i := 3) (N := fun (_ : Unit) => [.fr (eBeads beads), .fr (eBeads other), .fr (eB due), .un]) (S1 := [.fr (eBeads beads), .fr (eBeads other), .fr (eB due), .un]) C rfl rfl rfl rfl T.x_WrongKind.gm T.x_WrongKind.em rfl (by decide) (fun W pn xe Ct => (ss_expr (enc := eBeads) (e_call Ct (by decide) (ok__law_sum T) T.g__law_sum T.k__law_sum T.b__law_sum (x_cons (e_var (z := beads) (enc := eBeads) 0 rfl (pv 0)) (x_cons (e_var (z := other) (enc := eBeads) 1 rfl (pv 1)) x_nil))) (ss_nil (b := ()) (wk_e (wk_e (wk_e (wk_u wk_n))))) (wk_e (wk_e (wk_e (wk_u wk_n)))))) (fun a oe cls d pn args Ch hz hv hc => (ss_ret (enc := eB) (g := fun z => z) (e_and (e_isi T.n_isinstance (.ty "bool") (ty_bl (r := true) (by decide +kernel)) (pa_cons (b_e (e_xf T.x_WrongKind.xf T.xn_WrongKind_ring hz hv hc (S := _) (i := 3) rfl (pv 3) fldB_ok.1 fldB_ok.2)) (pa_cons (pe_bltn (v := .ty "bool") rfl T.n_bool boot_bool rfl) pa_nil))) (e_one (e_cmp c_eqB (b_e (e_xf T.x_WrongKind.xf T.xn_WrongKind_ring hz hv hc (S := _) (i := 3) rfl (pv 3) fldB_ok.1 fldB_ok.2)) (b_e (e_var (z := due) (enc := eB) 2 rfl (pv 2))) rfl))) Wk.nil (fun _ => rfl))) (fun _ => rfl) (fun b => b.elim)) (fun _ => (ss_ret (enc := eB) (g := fun z => z) e_bl Wk.nil (fun _ => rfl)))) (by simp only [mbk, mba, sqk, sqa, c__law_is_unlike])) (.inl rfl)
theorem ok_law (T : Tx K mg ca fa fd) : FnOk P w K mg base (L2N.CX P w) 9 (fa 28) (fd 28) ["script"] (spE K ca (xC eScr xN) eB fun a => f_law a.1) :=
  fn_E (d := .no) (fn_ok (k := 8) (n := 13) (Nx := fun _ _ => []) (L := fun _ (_ : Empty) => []) (R := fun r : Bool => .fr (eB r)) (encA := (xC eScr xN)) (code := fun a => c_law a.1) T.F_law sc_law (fun _ => rfl) rfl fun cdv A outer s G H E a C => by
    obtain ⟨script, u0⟩ := a
    show DSs _ _ [.fr (eScr script), .un, .un, .un, .un, .un, .un, .un, .un, .un, .un, .un, .un, .un] _ _ _ _ _
    exact ss_eq (ss_asgO (i := 1) C.nd (o_call C (by decide) (ok__law_draws T) T.g__law_draws T.k__law_draws T.b__law_draws (x_cons (e_call C (by decide) (ok__law_cell T) T.g__law_cell T.k__law_cell T.b__law_cell (x_cons (e_var (z := script) (enc := eScr) 0 rfl (pv 0)) (x_cons e_int x_nil))) (x_consL (b_e (e_o (o_lst (enc := eI) (g := fun z : Int × Int × Int × Int × Int × Int × Int × Int × Int × Unit => [z.1, z.2.1, z.2.2.1, z.2.2.2.1, z.2.2.2.2.1, z.2.2.2.2.2.1, z.2.2.2.2.2.2.1, z.2.2.2.2.2.2.2.1, z.2.2.2.2.2.2.2.2.1]) (a_cons e_int (a_cons e_int (a_cons e_int (a_cons e_int (a_cons e_int (a_cons e_int (a_cons e_int (a_cons e_int (a_cons e_int a_nil))))))))) (fun _ => rfl) (fun _ => small_line (by show 9 ≤ 1000; decide))))) x_nil))) (fun shape684 => (ss_asg (enc := eI) (i := 2) C.nd (e_add e_int (e_ixL (enc := eI) (b_var (z := shape684) (enc := eI) 1 rfl (pv 1)) e_int)) (fun many686 => (ss_if (N := fun (j692 : Int) => [.fr (eScr script), .ow (List.map eI shape684), .fr (eI j692), .un, .un, .un, .un, .un, .un, .un, .un, .un, .un, .un]) (t_cmp c_eq (b_e (e_ixL (enc := eI) (b_var (z := shape684) (enc := eI) 1 rfl (pv 1)) e_int)) (b_e e_int) rfl) (ss_asg (enc := eI) (i := 2) C.nd (e_add e_int (e_ixL (enc := eI) (b_var (z := shape684) (enc := eI) 1 rfl (pv 1)) e_int)) (fun many691 => (ss_nil (b := many691) (wk_e (wk_e (wk_e (wk_u (wk_u (wk_u (wk_u (wk_u (wk_u (wk_u (wk_u (wk_u (wk_u (wk_u wk_n)))))))))))))))) Wk.nil) (ss_nil (b := many686) (wk_e (wk_e (wk_e (wk_u (wk_u (wk_u (wk_u (wk_u (wk_u (wk_u (wk_u (wk_u (wk_u (wk_u wk_n))))))))))))))) (fun j692 => (ss_asg (enc := eI) (i := 3) C.nd (e_add e_int (e_ixL (enc := eI) (b_var (z := shape684) (enc := eI) 1 rfl (pv 1)) e_int)) (fun more694 => (ss_if (N := fun (j700 : Int) => [.fr (eScr script), .ow (List.map eI shape684), .fr (eI j692), .fr (eI j700), .un, .un, .un, .un, .un, .un, .un, .un, .un, .un]) (t_cmp c_eq (b_e (e_ixL (enc := eI) (b_var (z := shape684) (enc := eI) 1 rfl (pv 1)) e_int)) (b_e e_int) rfl) (ss_asg (enc := eI) (i := 3) C.nd (e_add e_int (e_ixL (enc := eI) (b_var (z := shape684) (enc := eI) 1 rfl (pv 1)) e_int)) (fun more699 => (ss_nil (b := more699) (wk_e (wk_e (wk_e (wk_e (wk_u (wk_u (wk_u (wk_u (wk_u (wk_u (wk_u (wk_u (wk_u (wk_u wk_n)))))))))))))))) Wk.nil) (ss_nil (b := more694) (wk_e (wk_e (wk_e (wk_e (wk_u (wk_u (wk_u (wk_u (wk_u (wk_u (wk_u (wk_u (wk_u (wk_u wk_n))))))))))))))) (fun j700 => (ss_asg (enc := eB) (i := 4) C.nd (e_cmp c_lt (b_e (e_ixL (enc := eI) (b_var (z := shape684) (enc := eI) 1 rfl (pv 1)) e_int)) (b_e e_int) rfl) (fun round_flag702 => (ss_asgO (i := 5) C.nd (o_call C (by decide) (ok__law_lengths T) T.g__law_lengths T.k__law_lengths T.b__law_lengths (x_cons (e_call C (by decide) (ok__law_cell T) T.g__law_cell T.k__law_cell T.b__law_cell (x_cons (e_var (z := script) (enc := eScr) 0 rfl (pv 0)) (x_cons e_int x_nil))) (x_cons (e_var (z := j692) (enc := eI) 2 rfl (pv 2)) x_nil))) (fun sizes704 => (ss_asgO (i := 6) C.nd (o_call C (by decide) (ok__law_strengths T) T.g__law_strengths T.k__law_strengths T.b__law_strengths (x_cons (e_call C (by decide) (ok__law_cell T) T.g__law_cell T.k__law_cell T.b__law_cell (x_cons (e_var (z := script) (enc := eScr) 0 rfl (pv 0)) (x_cons e_int x_nil))) (x_consL (b_var (z := sizes704) (enc := eI) 5 rfl (pv 5)) x_nil))) (fun strengths706 => (ss_asgO (i := 7) C.nd (o_lst (enc := (eL eI)) (g := fun z : (List Int) × (List Int) × Unit => [z.1, z.2.1]) (a_cons (e_o (o_list (enc := eI) T.n_list (pa_cons (b_var (z := strengths706) (enc := eI) 6 rfl (pv 6)) pa_nil))) (a_cons (e_o (o_list (enc := eI) T.n_list (pa_cons (b_var (z := sizes704) (enc := eI) 5 rfl (pv 5)) pa_nil))) a_nil)) (fun _ => rfl) (fun _ => small_line (by show 2 ≤ 1000; decide))) (fun passed707 => (ss_asg (enc := eBeads) (i := 8) C.nd (e_make C (by decide) (fun _ _ _ _ _ h => h) T.mk_Beads (ok_Beads___init__ T) T.g_Beads T.kb_Beads_3_ring (x_consL (b_e (e_ixL (enc := (eL eI)) (b_var (z := passed707) (enc := (eL eI)) 7 rfl (pv 7)) e_int)) (x_consL (b_e (e_ixL (enc := (eL eI)) (b_var (z := passed707) (enc := (eL eI)) 7 rfl (pv 7)) e_int)) x_nil)) (k_cons (e_var (z := round_flag702) (enc := eB) 4 rfl (pv 4)) k_nil) (fun _ => rfl) (fun _ => rfl) (a3 (mk := fun (z : _ × _ × Unit) (y : _ × Unit) => (z.1, z.2.1, y.1, ())) fun _ _ => rfl)) (fun beads710 => (ss_asgO (i := 9) C.nd (o_call C (by decide) (ok__law_lengths T) T.g__law_lengths T.k__law_lengths T.b__law_lengths (x_cons (e_call C (by decide) (ok__law_cell T) T.g__law_cell T.k__law_cell T.b__law_cell (x_cons (e_var (z := script) (enc := eScr) 0 rfl (pv 0)) (x_cons e_int x_nil))) (x_cons (e_var (z := j700) (enc := eI) 3 rfl (pv 3)) x_nil))) (fun others712 => (ss_frz 9 rfl (ss_asgO (i := 10) C.nd (o_lst (enc := (eL eI)) (g := fun z : (List Int) × (List Int) × Unit => [z.1, z.2.1]) (a_cons (e_var (z := others712) (enc := (eL eI)) 9 rfl (pv 9)) (a_cons (e_o (o_call C (by decide) (ok__law_strengths T) T.g__law_strengths T.k__law_strengths T.b__law_strengths (x_cons (e_call C (by decide) (ok__law_cell T) T.g__law_cell T.k__law_cell T.b__law_cell (x_cons (e_var (z := script) (enc := eScr) 0 rfl (pv 0)) (x_cons e_int x_nil))) (x_consL (b_e (e_var (z := others712) (enc := (eL eI)) 9 rfl (pv 9))) x_nil)))) a_nil)) (fun _ => rfl) (fun _ => small_line (by show 2 ≤ 1000; decide))) (fun given716 => (ss_asg (enc := eBeads) (i := 11) C.nd (e_make C (by decide) (fun _ _ _ _ _ h => h) T.mk_Beads (ok_Beads___init__ T) T.g_Beads T.kb_Beads_3_ring (x_consL (b_e (e_o (o_list (enc := eI) T.n_list (pa_cons (b_e (e_ixL (enc := (eL eI)) (b_var (z := given716) (enc := (eL eI)) 10 rfl (pv 10)) e_int)) pa_nil)))) (x_consL (b_e (e_o (o_list (enc := eI) T.n_list (pa_cons (b_e (e_ixL (enc := (eL eI)) (b_var (z := given716) (enc := (eL eI)) 10 rfl (pv 10)) e_int)) pa_nil)))) x_nil)) (k_cons (e_cmp c_eqB (b_e (e_var (z := round_flag702) (enc := eB) 4 rfl (pv 4))) (b_e (e_cmp c_gt (b_e (e_ixL (enc := eI) (b_var (z := shape684) (enc := eI) 1 rfl (pv 1)) e_int)) (b_e e_int) rfl)) rfl) k_nil) (fun _ => rfl) (fun _ => rfl) (a3 (mk := fun (z : _ × _ × Unit) (y : _ × Unit) => (z.1, z.2.1, y.1, ())) fun _ _ => rfl)) (fun other723 => (ss_asgO (i := 12) C.nd (o_call C (by decide) (ok__law_higher T) T.g__law_higher T.k__law_higher T.b__law_higher (x_cons (e_call C (by decide) (ok__law_cell T) T.g__law_cell T.k__law_cell T.b__law_cell (x_cons (e_var (z := script) (enc := eScr) 0 rfl (pv 0)) (x_cons e_int x_nil))) (x_consL (b_var (z := strengths706) (enc := eI) 6 rfl (pv 6)) x_nil))) (fun raised725 => (ss_ifX (t_not (t_val (e_call C (by decide) (ok__law_is_raised T) T.g__law_is_raised T.k__law_is_raised T.b__law_is_raised (x_cons (e_var (z := beads710) (enc := eBeads) 8 rfl (pv 8)) (x_cons (e_var (z := round_flag702) (enc := eB) 4 rfl (pv 4)) (x_consL (b_var (z := sizes704) (enc := eI) 5 rfl (pv 5)) (x_consL (b_var (z := strengths706) (enc := eI) 6 rfl (pv 6)) (x_cons (e_ixL (enc := eI) (b_var (z := raised725) (enc := eI) 12 rfl (pv 12)) e_int) (x_cons (e_ixL (enc := eI) (b_var (z := raised725) (enc := eI) 12 rfl (pv 12)) e_int) x_nil))))))))) (ss_ret (enc := eB) (g := fun z => z) e_bl Wk.nil (fun _ => rfl)) (nn_mb fun _ => nn_rt) (ss_asg (enc := eI) (i := 13) C.nd (e_add e_int (e_mod (e_intI T.n_int (pa_cons (e_ixL (enc := eI) (b_var (z := shape684) (enc := eI) 1 rfl (pv 1)) e_int) pa_nil)) (e_min2 C.calm T.n_min (pa_cons e_int (pa_cons (e_div e_int (e_var (z := j692) (enc := eI) 2 rfl (pv 2))) pa_nil))))) (fun times733 => (ss_ifX (t_not (t_val (e_call C (by decide) (ok__law_is_repeated T) T.g__law_is_repeated T.k__law_is_repeated T.b__law_is_repeated (x_cons (e_var (z := beads710) (enc := eBeads) 8 rfl (pv 8)) (x_cons (e_var (z := round_flag702) (enc := eB) 4 rfl (pv 4)) (x_consL (b_var (z := sizes704) (enc := eI) 5 rfl (pv 5)) (x_consL (b_var (z := strengths706) (enc := eI) 6 rfl (pv 6)) (x_cons (e_var (z := times733) (enc := eI) 13 rfl (pv 13)) x_nil)))))))) (ss_ret (enc := eB) (g := fun z => z) e_bl Wk.nil (fun _ => rfl)) (nn_mb fun _ => nn_rt) (ss_frz 5 rfl (ss_frz 6 rfl (ss_ifX (t_not (t_val (e_call C (by decide) (ok__law_is_joined T) T.g__law_is_joined T.k__law_is_joined T.b__law_is_joined (x_cons (e_var (z := beads710) (enc := eBeads) 8 rfl (pv 8)) (x_cons (e_var (z := beads710) (enc := eBeads) 8 rfl (pv 8)) (x_cons (e_var (z := round_flag702) (enc := eB) 4 rfl (pv 4)) (x_consL (b_e (e_var (z := sizes704) (enc := (eL eI)) 5 rfl (pv 5))) (x_consL (b_e (e_var (z := strengths706) (enc := (eL eI)) 6 rfl (pv 6))) (x_consL (b_e (e_o (o_lst (enc := (eL eI)) (g := fun z : (List Int) × (List Int) × Unit => [z.1, z.2.1]) (a_cons (e_var (z := sizes704) (enc := (eL eI)) 5 rfl (pv 5)) (a_cons (e_var (z := strengths706) (enc := (eL eI)) 6 rfl (pv 6)) a_nil)) (fun _ => rfl) (fun _ => small_line (by show 2 ≤ 1000; decide))))) x_nil))))))))) (ss_ret (enc := eB) (g := fun z => z) e_bl Wk.nil (fun _ => rfl)) (nn_mb fun _ => nn_rt) (ss_if (N := fun (j749 : Unit) => [.fr (eScr script), .ow (List.map eI shape684), .fr (eI j692), .fr (eI j700), .fr (eB round_flag702), .fr ((eL eI) sizes704), .fr ((eL eI) strengths706), .ow (List.map (eL eI) passed707), .fr (eBeads beads710), .fr ((eL eI) others712), .ow (List.map (eL eI) given716), .fr (eBeads other723), .ow (List.map eI raised725), .fr (eI times733)]) (t_cmp c_gt (b_e (e_ixL (enc := eI) (b_var (z := shape684) (enc := eI) 1 rfl (pv 1)) e_int)) (b_e e_int) rfl) (ss_ifX (t_not (t_val (e_call C (by decide) (ok__law_is_joined T) T.g__law_is_joined T.k__law_is_joined T.b__law_is_joined (x_cons (e_var (z := beads710) (enc := eBeads) 8 rfl (pv 8)) (x_cons (e_var (z := other723) (enc := eBeads) 11 rfl (pv 11)) (x_cons (e_var (z := round_flag702) (enc := eB) 4 rfl (pv 4)) (x_consL (b_e (e_var (z := sizes704) (enc := (eL eI)) 5 rfl (pv 5))) (x_consL (b_e (e_var (z := strengths706) (enc := (eL eI)) 6 rfl (pv 6))) (x_consL (b_var (z := given716) (enc := (eL eI)) 10 rfl (pv 10)) x_nil))))))))) (ss_ret (enc := eB) (g := fun z => z) e_bl Wk.nil (fun _ => rfl)) (nn_mb fun _ => nn_rt) (ss_nil (b := ()) (wk_e (wk_e (wk_e (wk_e (wk_e (wk_e (wk_e (wk_e (wk_e (wk_e (wk_e (wk_e (wk_e (wk_e wk_n))))))))))))))) Wk.nil) (ss_ifX (t_w (w_or (t_not (t_val (e_call C (by decide) (ok__law_is_unlike T) T.g__law_is_unlike T.k__law_is_unlike T.b__law_is_unlike (x_cons (e_var (z := beads710) (enc := eBeads) 8 rfl (pv 8)) (x_cons (e_var (z := other723) (enc := eBeads) 11 rfl (pv 11)) (x_cons (e_not (e_var (z := round_flag702) (enc := eB) 4 rfl (pv 4))) x_nil)))))) (w_or1 (t_not (t_val (e_call C (by decide) (ok__law_is_unlike T) T.g__law_is_unlike T.k__law_is_unlike T.b__law_is_unlike (x_cons (e_var (z := other723) (enc := eBeads) 11 rfl (pv 11)) (x_cons (e_var (z := beads710) (enc := eBeads) 8 rfl (pv 8)) (x_cons (e_var (z := round_flag702) (enc := eB) 4 rfl (pv 4)) x_nil))))))))) (ss_ret (enc := eB) (g := fun z => z) e_bl Wk.nil (fun _ => rfl)) (nn_mb fun _ => nn_rt) (ss_nil (b := ()) (wk_e (wk_e (wk_e (wk_e (wk_e (wk_e (wk_e (wk_e (wk_e (wk_e (wk_e (wk_e (wk_e (wk_e wk_n))))))))))))))) Wk.nil) (fun j749 => (ss_ifX (t_not (t_val (e_call C (by decide) (ok__law_is_standing T) T.g__law_is_standing T.k__law_is_standing T.b__law_is_standing (x_cons (e_var (z := other723) (enc := eBeads) 11 rfl (pv 11)) (x_cons (e_cmp c_eqB (b_e (e_var (z := round_flag702) (enc := eB) 4 rfl (pv 4))) (b_e (e_cmp c_gt (b_e (e_ixL (enc := eI) (b_var (z := shape684) (enc := eI) 1 rfl (pv 1)) e_int)) (b_e e_int) rfl)) rfl) (x_consL (b_e (e_ixL (enc := (eL eI)) (b_var (z := given716) (enc := (eL eI)) 10 rfl (pv 10)) e_int)) (x_consL (b_e (e_ixL (enc := (eL eI)) (b_var (z := given716) (enc := (eL eI)) 10 rfl (pv 10)) e_int)) x_nil))))))) (ss_ret (enc := eB) (g := fun z => z) e_bl Wk.nil (fun _ => rfl)) (nn_mb fun _ => nn_rt) (ss_ret (enc := eB) (g := fun z => z) (e_and (e_cmp (c_eqD (pd_lst (pd_lst pd_int)) (by decide) C.room.units) (b_var (z := passed707) (enc := (eL eI)) 7 rfl (pv 7)) (b_e (e_o (o_lst (enc := (eL eI)) (g := fun z : (List Int) × (List Int) × Unit => [z.1, z.2.1]) (a_cons (e_var (z := strengths706) (enc := (eL eI)) 6 rfl (pv 6)) (a_cons (e_var (z := sizes704) (enc := (eL eI)) 5 rfl (pv 5)) a_nil)) (fun _ => rfl) (fun _ => small_line (by show 2 ≤ 1000; decide))))) rfl) (e_one (e_call C (by decide) (ok__law_is_standing T) T.g__law_is_standing T.k__law_is_standing T.b__law_is_standing (x_cons (e_var (z := beads710) (enc := eBeads) 8 rfl (pv 8)) (x_cons (e_var (z := round_flag702) (enc := eB) 4 rfl (pv 4)) (x_consL (b_e (e_var (z := sizes704) (enc := (eL eI)) 5 rfl (pv 5))) (x_consL (b_e (e_var (z := strengths706) (enc := (eL eI)) 6 rfl (pv 6))) x_nil))))))) Wk.nil (fun _ => rfl)) Wk.nil)) Wk.nil) Wk.nil))) Wk.nil)) Wk.nil) Wk.nil)) Wk.nil)) Wk.nil)) Wk.nil))) Wk.nil)) Wk.nil)) Wk.nil)) Wk.nil)) Wk.nil)) Wk.nil)) Wk.nil)) Wk.nil)) Wk.nil)) Wk.nil)) Wk.nil) (by simp only [mbk, mba, sqk, sqa, c_law])) (.inl rfl)
end
/-! ### the plain law -/
theorem q_cell : f__law_cell = k__law_cell := rfl
theorem q_draws : f__law_draws = k__law_draws := rfl
theorem q_lengths : f__law_lengths = k__law_lengths := rfl
theorem q_strengths : f__law_strengths = k__law_strengths := rfl
theorem q_init : f_Beads___init__ = k_Beads___init__ := rfl
theorem q_init1 : f_Beads___init___v1 = k_Beads___init__ := rfl
theorem q_init2 : f_Beads___init___v2 = k_Beads___init__ := rfl
theorem q_len : f_Beads___len__ = k_Beads___len__ := rfl
theorem q_reach : f__law_reach = k__law_reach := rfl
theorem q_reaches : f_reaches = k_reaches := rfl
theorem q_check : f_check_place = k_check_place := rfl
theorem q_numbers : f__law_numbers = k__law_numbers := rfl
theorem q_numbersT : f__law_numbers_v1 = k__law_numbers_v1 := rfl
theorem q_isint : f__law_is_integer = k__law_is_integer := rfl
theorem q_standing : f__law_is_standing = k__law_is_standing := rfl
/-! ### reaches by steps -/
theorem reach_steps {r : Bool} {ss zs : List Int} {p : Int} (h0 : 0 ≤ p) (h1 : p < ss.length) : reachV ⟨ss, zs, r⟩ p = sAt zs p + (((rng 1 (stepsV r ss.length p)).takeWhile fun d => !decide (sAt ss p ≤ sAt ss (onV ss.length p d))).map fun d => sAt zs (onV ss.length p d)).sum := by
  unfold reachV trainV
  rw [runs_steps h0 h1, tw_map, List.map_map]
  rfl
theorem tw_cong {α : Type} {p q : α → Bool} : ∀ {xs : List α}, (∀ x ∈ xs, p x = q x) → xs.takeWhile p = xs.takeWhile q
  | [], _ => rfl
  | x :: xs, h => by
    rw [List.takeWhile_cons, List.takeWhile_cons, h x List.mem_cons_self, tw_cong (xs := xs) fun y hy => h y (List.mem_cons_of_mem _ hy)]
theorem tw_stop {α : Type} {p : α → Bool} {y : α} {ys : List α} (h : p y = false) : ∀ xs : List α, (xs ++ y :: ys).takeWhile p = xs.takeWhile p
  | [] => by simp [h]
  | x :: xs => by
    rw [List.cons_append, List.takeWhile_cons, List.takeWhile_cons, tw_stop h xs]
theorem tw_sum {p q : Int → Bool} {f : Int → Int} : ∀ {xs : List Int}, (∀ x ∈ xs, p x = true → q x = true) → (∀ x ∈ xs, 0 ≤ f x) → ((xs.takeWhile p).map f).sum ≤ ((xs.takeWhile q).map f).sum
  | [], _, _ => Int.le_refl _
  | x :: xs, h, hf => by
    have ih := tw_sum (xs := xs) (fun y hy => h y (List.mem_cons_of_mem _ hy)) fun y hy => hf y (List.mem_cons_of_mem _ hy)
    have f0 := hf x List.mem_cons_self
    rw [List.takeWhile_cons, List.takeWhile_cons]
    cases hp : p x with
    | true =>
      rw [h x List.mem_cons_self hp, if_pos rfl, if_pos rfl, List.map_cons, List.map_cons, List.sum_cons, List.sum_cons]
      omega
    | false =>
      rw [if_neg (by decide)]
      split
      · rw [List.map_cons, List.sum_cons]
        have : 0 ≤ ((xs.takeWhile q).map f).sum := sum_nn fun y hy => by
          obtain ⟨z, hz, rfl⟩ := List.mem_map.mp hy
          exact hf z (List.mem_cons_of_mem _ (List.takeWhile_subset _ hz))
        simp only [List.map_nil, List.sum_nil]
        omega
      · exact Int.le_refl _
theorem steps_le {r : Bool} {n p : Int} (h0 : 0 ≤ p) : stepsV r n p ≤ n := by
  unfold stepsV; split <;> omega
theorem on_rg {r : Bool} {n p d : Int} (h0 : 0 ≤ p) (h1 : p < n) (hd : d ∈ rng 1 (stepsV r n p)) : 0 ≤ onV n p d ∧ onV n p d < n ∧ onV n p d ≠ p := by
  have := mem_rng.mp hd
  have := steps_le (r := r) (n := n) h0
  unfold onV
  split <;> omega
/-- one bead raised -/
theorem raise_up {r : Bool} {ss zs : List Int} {p x : Int} (g : Good ⟨ss, zs, r⟩) (h0 : 0 ≤ p) (h1 : p < ss.length) (hx : sAt ss p ≤ x) : reachV ⟨ss, zs, r⟩ p ≤ reachV ⟨ss.set p.toNat x, zs, r⟩ p := by
  have hz : zs.length = ss.length := g.len
  rw [reach_steps h0 h1, reach_steps h0 (by rw [List.length_set]; exact h1), List.length_set]
  refine Int.add_le_add_left (tw_sum (fun d hd q => ?_) fun d hd => ?_) _
  · obtain ⟨a, b, c⟩ := on_rg h0 h1 hd
    rw [sAt_set h0 h1 h0, sAt_set h0 h1 a, if_pos rfl, if_neg c]
    simp only [Bool.not_eq_true', decide_eq_false_iff_not] at q ⊢
    omega
  · obtain ⟨a, b, c⟩ := on_rg h0 h1 hd
    have := g.l1 _ (sAt_mem (xs := zs) a (by omega))
    omega
theorem raise_off {r : Bool} {ss zs : List Int} {p k x : Int} (g : Good ⟨ss, zs, r⟩) (h0 : 0 ≤ p) (h1 : p < ss.length) (k0 : 0 ≤ k) (k1 : k < ss.length) (ne : k ≠ p) (hx : sAt ss p ≤ x) : reachV ⟨ss.set p.toNat x, zs, r⟩ k ≤ reachV ⟨ss, zs, r⟩ k := by
  have hz : zs.length = ss.length := g.len
  rw [reach_steps k0 k1, reach_steps k0 (by rw [List.length_set]; exact k1), List.length_set]
  refine Int.add_le_add_left (tw_sum (fun d hd q => ?_) fun d hd => ?_) _
  · obtain ⟨a, b, c⟩ := on_rg k0 k1 hd
    rw [sAt_set h0 h1 k0, sAt_set h0 h1 a, if_neg ne] at q
    by_cases e : onV ss.length k d = p
    · rw [if_pos e] at q
      rw [e]
      simp only [Bool.not_eq_true', decide_eq_false_iff_not] at q ⊢
      omega
    · rw [if_neg e] at q
      exact q
  · obtain ⟨a, b, c⟩ := on_rg k0 k1 hd
    have := g.l1 _ (sAt_mem (xs := zs) a (by omega))
    omega
/-! ### repeated -/
def repV (xs : List Int) (t : Nat) : List Int := (List.replicate t xs).flatten
theorem repV_len (xs : List Int) : ∀ t : Nat, (repV xs t).length = xs.length * t
  | 0 => rfl
  | t + 1 => by
    have := repV_len xs t
    unfold repV at *
    rw [List.replicate_succ, List.flatten_cons, List.length_append, this, Nat.mul_succ, Nat.add_comm]
theorem repV_mem {xs : List Int} {t : Nat} {x : Int} (h : x ∈ repV xs t) : x ∈ xs := by
  unfold repV at h
  obtain ⟨l, hl, hx⟩ := List.mem_flatten.mp h
  rw [List.mem_replicate] at hl
  rw [← hl.2]; exact hx
theorem sAt_app1 {xs ys : List Int} {k : Int} (h0 : 0 ≤ k) (h1 : k < xs.length) : sAt (xs ++ ys) k = sAt xs k := by
  unfold sAt
  rw [List.getD_eq_getElem?_getD, List.getD_eq_getElem?_getD, List.getElem?_append_left (by omega)]
theorem sAt_app2 {xs ys : List Int} {k : Int} (h0 : xs.length ≤ k) : sAt (xs ++ ys) k = sAt ys (k - xs.length) := by
  unfold sAt
  rw [List.getD_eq_getElem?_getD, List.getD_eq_getElem?_getD, List.getElem?_append_right (by omega)]
  congr 3
  omega
theorem repV_at {xs : List Int} : ∀ (t : Nat) {k : Int}, 0 ≤ k → k < (xs.length * t : Nat) → sAt (repV xs t) k = sAt xs (k % xs.length)
  | 0, k, h0, h1 => by rw [Nat.mul_zero] at h1; omega
  | t + 1, k, h0, h1 => by
    have e : repV xs (t + 1) = xs ++ repV xs t := by
      unfold repV
      rw [List.replicate_succ, List.flatten_cons]
    rw [e]
    by_cases c : k < xs.length
    · rw [sAt_app1 h0 c, Int.emod_eq_of_lt h0 c]
    · rw [sAt_app2 (by omega), repV_at t (by omega) (by rw [Nat.mul_succ] at h1; omega), Int.sub_emod_right]
theorem rep_reach {ss zs : List Int} {t : Nat} {k : Int} (hz : zs.length = ss.length) (h0 : 0 ≤ k) (h1 : k < (ss.length * t : Nat)) : reachV ⟨repV ss t, repV zs t, true⟩ k = reachV ⟨ss, zs, true⟩ (k % ss.length) := by
  have hn : 0 < (ss.length : Int) := by
    rcases Nat.eq_zero_or_pos ss.length with e | e
    · rw [e, Nat.zero_mul] at h1; omega
    · omega
  have ht : 0 < t := by
    rcases Nat.eq_zero_or_pos t with e | e
    · rw [e, Nat.mul_zero] at h1; omega
    · exact e
  have m0 := Int.emod_nonneg k (show (ss.length : Int) ≠ 0 by omega)
  have m1 := Int.emod_lt_of_pos k hn
  rw [reach_steps h0 (by rw [repV_len]; exact h1), reach_steps m0 m1, repV_len]
  have hN : (ss.length : Int) ≤ (ss.length * t : Nat) := by
    have := Nat.le_mul_of_pos_right ss.length ht
    omega
  generalize hNN : ss.length * t = N at *
  have on_eq : ∀ (n p d : Int), 0 ≤ p → p < n → 0 ≤ d → d < n → onV n p d = (p + d) % n := by
    intro n p d a b c e
    unfold onV
    split
    · rw [show p + d = (p + d - n) + n by omega, Int.add_emod_right, Int.emod_eq_of_lt (by omega) (by omega)]
      omega
    · rw [Int.emod_eq_of_lt (by omega) (by omega)]
  have hdvd : (ss.length : Int) ∣ (N : Int) := ⟨t, by rw [← hNN]; exact Int.natCast_mul _ _⟩
  have at_eq : ∀ (xs : List Int), xs.length = ss.length → ∀ d, 0 ≤ d → d < (N : Int) → sAt (repV xs t) (onV N k d) = sAt xs ((k % ss.length + d) % ss.length) := by
    intro xs hx d d0 d1
    rw [on_eq N k d h0 h1 d0 d1, repV_at t (Int.emod_nonneg _ (by omega)) (by rw [hx, hNN]; exact Int.emod_lt_of_pos _ (by omega)), hx, Int.emod_emod_of_dvd _ hdvd]
    congr 1
    rw [Int.emod_add_emod]
  unfold stepsV
  rw [if_pos rfl, if_pos rfl]
  have here : ∀ (xs : List Int), xs.length = ss.length → sAt (repV xs t) k = sAt xs (k % ss.length) := by
    intro xs hx
    rw [repV_at t h0 (by rw [hx, hNN]; exact h1), hx]
  rw [here zs hz, here ss rfl]
  congr 2
  have l1 : (rng 1 (N : Int)).takeWhile (fun d => !decide (sAt ss (k % ss.length) ≤ sAt (repV ss t) (onV N k d))) = (rng 1 (ss.length : Int)).takeWhile fun d => !decide (sAt ss (k % ss.length) ≤ sAt ss (onV ss.length (k % ss.length) d)) := by
    rw [rng_app (lo := 1) (mid := (ss.length : Int)) (hi := N) (by omega) hN]
    have cut : ∀ ys : List Int, (∀ y ∈ ys.head?, y = (ss.length : Int) ∧ y < N) → (rng 1 (ss.length : Int) ++ ys).takeWhile (fun d => !decide (sAt ss (k % ss.length) ≤ sAt (repV ss t) (onV N k d))) = (rng 1 (ss.length : Int)).takeWhile (fun d => !decide (sAt ss (k % ss.length) ≤ sAt (repV ss t) (onV N k d))) := by
      intro ys hy
      cases ys with
      | nil => rw [List.append_nil]
      | cons y ys =>
        obtain ⟨a, b⟩ := hy y rfl
        refine tw_stop ?_ _
        rw [at_eq ss rfl y (by omega) b, a, Int.add_emod_right, Int.emod_emod_of_dvd _ (Int.dvd_refl _)]
        simp
    rw [cut]
    · refine tw_cong fun d hd => ?_
      have := mem_rng.mp hd
      rw [at_eq ss rfl d (by omega) (by omega), on_eq _ _ d m0 m1 (by omega) this.2]
    · intro y hy
      by_cases c : (ss.length : Int) < N
      · rw [rng_cons c] at hy
        simp only [List.head?_cons, Option.mem_def, Option.some.injEq] at hy
        omega
      · rw [rng_nil (by omega)] at hy
        cases hy
  rw [l1]
  refine List.map_congr_left fun d hd => ?_
  have := mem_rng.mp (List.takeWhile_subset _ hd)
  rw [at_eq zs hz d (by omega) (by omega), on_eq _ _ d m0 m1 (by omega) this.2]
theorem rep_reaches {ss zs : List Int} {t : Nat} (hz : zs.length = ss.length) : (rng 0 (repV ss t).length).map (reachV ⟨repV ss t, repV zs t, true⟩) = repV ((rng 0 ss.length).map (reachV ⟨ss, zs, true⟩)) t := by
  have hl : ((rng 0 (ss.length : Int)).map (reachV ⟨ss, zs, true⟩)).length = ss.length := by rw [List.length_map, rng_len]; omega
  refine sAt_ext (by rw [List.length_map, rng_len, repV_len, repV_len, hl]; omega) fun k h0 h1 => ?_
  rw [List.length_map, rng_len, repV_len] at h1
  have h1' : k < (ss.length * t : Nat) := by omega
  have hn : 0 < (ss.length : Int) := by
    rcases Nat.eq_zero_or_pos ss.length with e | e
    · rw [e, Nat.zero_mul] at h1'; omega
    · omega
  have key : ∀ (n : Nat) (f : Int → Int) (j : Int), 0 ≤ j → j < n → sAt ((rng 0 (n : Int)).map f) j = f j := by
    intro n f j a b
    unfold sAt
    rw [List.getD_eq_getElem?_getD, List.getElem?_map, rng_get (by omega)]
    simp only [Option.map_some, Option.getD_some]
    rw [show (0 : Int) + (j.toNat : Int) = j by omega]
  rw [repV_at t h0 (by rw [hl]; exact h1'), hl, repV_len, key _ _ k h0 h1', key _ _ _ (Int.emod_nonneg _ (by omega)) (Int.emod_lt_of_pos _ hn), rep_reach hz h0 h1']
/-! ### joined: the second row at the end -/
theorem join_reach {ss zs ss' zs' : List Int} {k : Int} (hz : zs.length = ss.length) (hz' : zs'.length = ss'.length) (h0 : 0 ≤ k) (h1 : k < ss'.length) : reachV ⟨ss ++ ss', zs ++ zs', false⟩ (ss.length + k) = reachV ⟨ss', zs', false⟩ k := by
  rw [reach_steps (by omega) (by rw [List.length_append]; omega), reach_steps h0 h1]
  have e : stepsV false ((ss ++ ss').length : Int) (ss.length + k) = stepsV false ss'.length k := by
    unfold stepsV
    rw [if_neg (by decide), if_neg (by decide), List.length_append]
    omega
  rw [e]
  have on_eq : ∀ d ∈ rng 1 (stepsV false ss'.length k), onV ((ss ++ ss').length : Int) (ss.length + k) d = ss.length + onV ss'.length k d ∧ 0 ≤ onV ss'.length k d := by
    intro d hd
    have := mem_rng.mp hd
    unfold stepsV at this
    rw [if_neg (by decide)] at this
    unfold onV
    rw [List.length_append, if_neg (by omega), if_neg (by omega)]
    omega
  have at_eq : ∀ (xs ys : List Int) (j : Int), xs.length = ss.length → 0 ≤ j → sAt (xs ++ ys) (ss.length + j) = sAt ys j := by
    intro xs ys j hx hj
    rw [sAt_app2 (by omega)]
    congr 1
    omega
  rw [at_eq zs zs' k hz h0, at_eq ss ss' k rfl h0]
  congr 2
  rw [tw_cong (q := fun d => !decide (sAt ss' k ≤ sAt ss' (onV ss'.length k d))) fun d hd => by
    obtain ⟨a, b⟩ := on_eq d hd
    rw [a, at_eq ss ss' _ rfl b]]
  refine List.map_congr_left fun d hd => ?_
  obtain ⟨a, b⟩ := on_eq d (List.takeWhile_subset _ hd)
  rw [a, at_eq zs zs' _ hz b]
theorem join_drop {ss zs ss' zs' : List Int} (hz : zs.length = ss.length) (hz' : zs'.length = ss'.length) : ((rng 0 (ss ++ ss').length).map (reachV ⟨ss ++ ss', zs ++ zs', false⟩)).drop ss.length = (rng 0 ss'.length).map (reachV ⟨ss', zs', false⟩) := by
  rw [List.length_append, rng_app (lo := 0) (mid := (ss.length : Int)) (hi := ((ss.length + ss'.length : Nat) : Int)) (by omega) (by omega), List.map_append, List.drop_left' (by rw [List.length_map, rng_len]; omega)]
  rw [show rng (ss.length : Int) ((ss.length + ss'.length : Nat) : Int) = rng (0 + ss.length) (ss'.length + ss.length) by congr 1 <;> omega, ← rng_map, List.map_map]
  refine List.map_congr_left fun k hk => ?_
  have := mem_rng.mp hk
  show reachV _ (k + ss.length) = _
  rw [Int.add_comm, join_reach hz hz' this.1 this.2]
/-! ### the law's questions -/
theorem allK {r : Bool} {zs ss : List Int} (g : Good ⟨ss, zs, r⟩) : f__law_all r zs ss = .ok ((rng 0 ss.length).map (reachV ⟨ss, zs, r⟩)) := by
  unfold f__law_all c__law_all
  have hb : ss.length ≤ 90000 := g.big
  have hz : zs.length = ss.length := g.len
  rw [hz, rngK (by decide) (by decide) (by omega) (by omega), mbk, mapC_ok (g := reachV ⟨ss, zs, r⟩) (lineK (by rw [rng_len]; omega)) fun x hx => by
    have := mem_rng.mp hx
    rw [q_reach]
    exact lawReachK hz hb this.1 this.2]
  rfl
theorem foldl_maxI : ∀ (xs : List Int) (a : Int), xs.foldl max a ∈ a :: xs := by
  intro xs
  induction xs with
  | nil => intro a; exact List.mem_cons_self
  | cons x xs ih =>
    intro a
    rw [List.foldl_cons]
    have := ih (max a x)
    rcases List.mem_cons.mp this with h | h
    · rw [h]
      rcases Int.le_total a x with c | c
      · rw [Int.max_eq_right c]; simp
      · rw [Int.max_eq_left c]; simp
    · simp [h]
theorem maxOk {xs : List Int} (h : xs ≠ []) : ∃ m, maxI xs = .ok m := by
  cases xs with
  | nil => exact absurd rfl h
  | cons x xs => exact ⟨_, rfl⟩
theorem countsK {r : Bool} {ss zs : List Int} (g : Good ⟨ss, zs, r⟩) : f__law_is_counted ⟨ss, zs, r⟩ zs ss = .ok true := by
  have hb : ss.length ≤ 90000 := g.big
  have hz : zs.length = ss.length := g.len
  have hn : 0 < ss.length := g.ne
  unfold f__law_is_counted c__law_is_counted
  obtain ⟨m, em⟩ := maxOk (xs := ss) fun e => by rw [e] at hn; exact absurd hn (by decide)
  have e1 : f_Beads_total ⟨ss, zs, r⟩ = .ok zs.sum := rfl
  have e2 : f_Beads_greatest ⟨ss, zs, r⟩ = .ok m := by
    unfold f_Beads_greatest c_Beads_greatest
    show fnV .no (mb (maxI ss) fun v => .ok (.rt v)) = _
    rw [em]; rfl
  have e3 : (mb (f_Beads___len__ ⟨ss, zs, r⟩) fun n => lsO n ss) = .ok ss := by
    show mb (.ok (ss.length : Int)) _ = _
    rw [mbk]
    exact if_pos ⟨by omega, by omega⟩
  have e4 : mb (f_Beads___len__ ⟨ss, zs, r⟩) lenO = .ok (ss.length : Int) := lenK (b := ⟨ss, zs, r⟩) hb
  rw [e1, mbk, e2, mbk, q_isint, q_numbers]
  simp only [isintK, mbk, em]
  rw [if_neg (by simp), if_neg (by decide)]
  simp only [mbk, decide_true, Bool.not_true]
  rw [if_neg (by decide), e3, e4]
  simp only [mbk]
  rw [if_pos (by simp [hz]), numbersK false hb]
  simp [mbk, k_ok]
theorem good_set {r : Bool} {ss zs : List Int} {p x : Int} (g : Good ⟨ss, zs, r⟩) (hx : 0 ≤ x) : Good ⟨ss.set p.toNat x, zs, r⟩ :=
  ⟨by show 0 < (ss.set _ _).length; rw [List.length_set]; exact g.ne, by show zs.length = (ss.set _ _).length; rw [List.length_set]; exact g.len, by show (ss.set _ _).length ≤ 90000; rw [List.length_set]; exact g.big, fun s hs => by
    rcases List.mem_or_eq_of_mem_set hs with h | h
    · exact g.s0 _ h
    · rw [h]; exact hx, g.l1⟩
theorem withK {r : Bool} {ss zs : List Int} {p x : Int} (g : Good ⟨ss, zs, r⟩) (h0 : 0 ≤ p) (h1 : p < ss.length) (hx : 0 ≤ x) : f_Beads_with_strength ⟨ss, zs, r⟩ p x = .ok ⟨ss.set p.toNat x, zs, r⟩ := by
  unfold f_Beads_with_strength c_Beads_with_strength
  rw [q_check, checkK h0 h1, mbk, if_neg (by simp; omega), setK h0 h1, mbk, q_init1, initK (good_set g hx), mbk]
  rfl
theorem mapAt {f : Int → Int} {n k : Int} (h0 : 0 ≤ k) (h1 : k < n) : ixM ((rng 0 n).map f) k = .ok (f k) := by
  refine ixE h0 ?_
  rw [List.getElem?_map, rng_get (by omega)]
  simp only [Option.map_some, Option.some.injEq]
  congr 1
  omega
theorem raisedK {r : Bool} {ss zs : List Int} {p x : Int} (g : Good ⟨ss, zs, r⟩) (h0 : 0 ≤ p) (h1 : p < ss.length) (hx : sAt ss p ≤ x) : f__law_is_raised ⟨ss, zs, r⟩ r zs ss p x = .ok true := by
  have hb : ss.length ≤ 90000 := g.big
  have hz : zs.length = ss.length := g.len
  have x0 : 0 ≤ x := by
    have := g.s0 _ (sAt_mem (xs := ss) h0 h1)
    omega
  have g2 := good_set (p := p) g x0
  have rl : ((rng 0 (ss.length : Int)).map (reachV ⟨ss, zs, r⟩)).length = ss.length := by rw [List.length_map, rng_len]; omega
  unfold f__law_is_raised c__law_is_raised
  rw [allK g, mbk, q_reaches, reachesK g, mbk, q_numbers, numbersK false (by rw [rl]; exact hb)]
  simp only [decide_true, mbk, Bool.not_false, Bool.and_true, Bool.not_true]
  rw [if_neg (by decide), appK (by rw [rl]; omega), mbk, setK h0 h1, mbk, withK g h0 h1 x0, mbk, reachesK g2, mbk, allK g2, mbk]
  have rl2 : ((rng 0 ((ss.set p.toNat x).length : Int)).map (reachV ⟨ss.set p.toNat x, zs, r⟩)).length = ss.length := by rw [List.length_map, rng_len, List.length_set]; omega
  rw [numbersK false (by rw [rl2]; exact hb)]
  simp only [decide_true, mbk, Bool.not_false, Bool.and_true, Bool.not_true]
  rw [if_neg (by decide), rngK (by decide) (by decide) (by omega) (by omega), mbk, forM_pass, sqk]
  · rw [numbersK false (by rw [rl]; exact hb)]
    simp [mbk, k_ok]
  · intro k hk
    obtain ⟨k0, k1⟩ := mem_rng.mp hk
    rw [hz] at k1
    rw [List.length_set, mapAt k0 k1, mapAt k0 k1]
    simp only [mbk]
    by_cases e : k = p
    · subst e
      have := raise_up (x := x) g h0 h1 hx
      rw [if_pos (decide_eq_true rfl), mbk, if_neg (by simp; omega), if_neg (by simp)]
      simp [mbk]
    · have := raise_off g h0 h1 k0 k1 e hx
      rw [if_neg (by simp [e]), mbk, if_neg (by decide), if_pos (by simp [e])]
      simp only [mbk]
      rw [if_neg (by simp; omega)]
theorem good_rep {r : Bool} {ss zs : List Int} {t : Nat} (g : Good ⟨ss, zs, r⟩) (ht : 0 < t) (hb : ss.length * t ≤ 90000) : Good ⟨repV ss t, repV zs t, r⟩ := by
  have hz : zs.length = ss.length := g.len
  refine ⟨?_, ?_, ?_, fun s hs => g.s0 _ (repV_mem hs), fun s hs => g.l1 _ (repV_mem hs)⟩
  · show 0 < (repV ss t).length
    rw [repV_len]
    exact Nat.mul_pos g.ne ht
  · show (repV zs t).length = (repV ss t).length
    rw [repV_len, repV_len, hz]
  · show (repV ss t).length ≤ 90000
    rw [repV_len]; exact hb
theorem repeatedK {r : Bool} {ss zs : List Int} {t : Nat} (g : Good ⟨ss, zs, r⟩) (ht : 0 < t) (hb : ss.length * t ≤ 90000) (ht2 : t ≤ 1000) (hs2 : ss.length ≤ 1000) : f__law_is_repeated ⟨ss, zs, r⟩ r zs ss (t : Int) = .ok true := by
  have hz : zs.length = ss.length := g.len
  have g2 := good_rep g ht hb
  have hb2 : zs.length * t ≤ 90000 := by rw [hz]; exact hb
  have w1 : repTM ss (t : Int) = .ok (repV ss t) := by
    unfold repTM
    rw [if_pos (by omega), Int.toNat_natCast]
    rfl
  have w2 : repTM zs (t : Int) = .ok (repV zs t) := by
    unfold repTM
    rw [if_pos (by omega), Int.toNat_natCast]
    rfl
  have r1 : repM ss (t : Int) = .ok (repV ss t) := by rw [repK (by rw [Int.toNat_natCast]; omega) (by omega) (by omega)]; rfl
  have r2 : repM zs (t : Int) = .ok (repV zs t) := by rw [repK (by rw [Int.toNat_natCast]; omega) (by omega) (by omega)]; rfl
  unfold f__law_is_repeated c__law_is_repeated f_Beads___mul__ c_Beads___mul__
  simp only [w1, w2, r1, r2, mbk]
  rw [q_init2, initK g2]
  have e0 : fnV .no (mb (M.ok (BV.mk (repV ss t) (repV zs t) r)) fun v => M.ok (Out.rt v) : M (Out Unit Empty BV)) = .ok ⟨repV ss t, repV zs t, r⟩ := rfl
  rw [e0]
  simp only [mbk]
  rw [q_standing, standingK (by rw [repV_len]; exact hb2) (by rw [repV_len]; exact hb)]
  simp only [decide_true, mbk, Bool.not_true]
  rw [if_neg (by decide), countsK g2]
  simp only [mbk, Bool.not_true]
  rw [if_neg (by decide)]
  have rl : ((rng 0 (ss.length : Int)).map (reachV ⟨ss, zs, true⟩)).length = ss.length := by rw [List.length_map, rng_len]; omega
  have rl2 : ∀ (q : Bool), ((rng 0 ((repV ss t).length : Int)).map (reachV ⟨repV ss t, repV zs t, q⟩)).length = ss.length * t := by intro q; rw [List.length_map, rng_len, repV_len]; omega
  cases r with
  | true =>
    rw [if_pos rfl, allK g, mbk, repK (by rw [rl, Int.toNat_natCast]; omega) (by omega) (by omega)]
    simp only [mbk, sqk]
    rw [q_reaches, reachesK g2, mbk, q_numbers, Int.toNat_natCast]
    have := rep_reaches (t := t) hz
    rw [show (List.replicate t ((rng 0 (ss.length : Int)).map (reachV ⟨ss, zs, true⟩))).flatten = repV ((rng 0 (ss.length : Int)).map (reachV ⟨ss, zs, true⟩)) t from rfl, ← this, numbersK false (by rw [rl2]; exact hb)]
    simp [mbk, k_ok]
  | false =>
    rw [if_neg (by decide), allK g2]
    simp only [mbk, sqk]
    rw [q_reaches, reachesK g2, mbk, q_numbers, numbersK false (by rw [rl2]; exact hb)]
    simp [mbk, k_ok]
theorem good_app {r : Bool} {ss zs ss' zs' : List Int} (g : Good ⟨ss, zs, r⟩) (g' : Good ⟨ss', zs', r⟩) (hb : ss.length + ss'.length ≤ 90000) : Good ⟨ss ++ ss', zs ++ zs', r⟩ := by
  have hz : zs.length = ss.length := g.len
  have hz' : zs'.length = ss'.length := g'.len
  refine ⟨?_, ?_, ?_, fun s hs => ?_, fun s hs => ?_⟩
  · show 0 < (ss ++ ss').length
    rw [List.length_append]
    have : 0 < ss.length := g.ne
    omega
  · show (zs ++ zs').length = (ss ++ ss').length
    rw [List.length_append, List.length_append]
    omega
  · show (ss ++ ss').length ≤ 90000
    rw [List.length_append]; exact hb
  · rcases List.mem_append.mp hs with h | h
    · exact g.s0 _ h
    · exact g'.s0 _ h
  · rcases List.mem_append.mp hs with h | h
    · exact g.l1 _ h
    · exact g'.l1 _ h
theorem joinedK {r : Bool} {ss zs ss' zs' : List Int} (g : Good ⟨ss, zs, r⟩) (g' : Good ⟨ss', zs', r⟩) (hb : ss.length + ss'.length ≤ 90000) : f__law_is_joined ⟨ss, zs, r⟩ ⟨ss', zs', r⟩ r zs ss [zs', ss'] = .ok true := by
  have hz : zs.length = ss.length := g.len
  have hz' : zs'.length = ss'.length := g'.len
  have g2 := good_app g g' hb
  have c1 : catM ss ss' = .ok (ss ++ ss') := catK (by omega)
  have c2 : catM zs zs' = .ok (zs ++ zs') := catK (by omega)
  have i0 : ixM [zs', ss'] 0 = .ok zs' := rfl
  have i1 : ixM [zs', ss'] 1 = .ok ss' := rfl
  unfold f__law_is_joined c__law_is_joined f_Beads___add__ c_Beads___add__
  simp only [i0, i1, c1, c2, mbk, decide_true, Bool.not_true]
  rw [if_neg (by decide), q_init2, initK g2]
  have e0 : fnV .no (mb (M.ok (BV.mk (ss ++ ss') (zs ++ zs') r)) fun v => M.ok (Out.rt v) : M (Out Unit Empty BV)) = .ok ⟨ss ++ ss', zs ++ zs', r⟩ := rfl
  rw [e0]
  simp only [mbk]
  rw [q_standing, standingK (by rw [List.length_append]; omega) (by rw [List.length_append]; omega)]
  simp only [decide_true, mbk, Bool.not_true]
  rw [if_neg (by decide), countsK g2]
  simp only [mbk, Bool.not_true]
  have rl2 : ((rng 0 ((ss ++ ss').length : Int)).map (reachV ⟨ss ++ ss', zs ++ zs', r⟩)).length = ss.length + ss'.length := by rw [List.length_map, rng_len, List.length_append]; omega
  rw [if_neg (by decide), q_reaches, reachesK g2, mbk, allK g2, mbk, q_numbers, numbersK false (by rw [rl2]; exact hb)]
  simp only [decide_true, mbk, Bool.not_false, Bool.and_true, Bool.not_true]
  rw [if_neg (by decide)]
  cases r with
  | true => rfl
  | false =>
    rw [if_neg (by decide), reachesK g', mbk, cutN, hz, join_drop hz hz', numbersK false (by rw [List.length_map, rng_len]; omega)]
    simp [mbk, k_ok]
theorem unlikeK {b b' : BV} (h : b.ring ≠ b'.ring) : f__law_is_unlike b b' b'.ring = .ok true := by
  have e : f__law_sum b b' = .er ⟨"WrongKind", [("ring", eB b'.ring)]⟩ := by
    unfold f__law_sum c__law_sum f_Beads___add__ c_Beads___add__
    rw [if_pos (by simp [h])]
    rfl
  unfold f__law_is_unlike c__law_is_unlike
  rw [e]
  simp only [mb_er]
  rw [tryM_er]
  have f : fldB [(("ring" : Str), eB b'.ring)] "ring" = .ok b'.ring := by rfl
  rw [f]
  simp [mbk, noEr, sq, k_ok]
theorem higherK (cell : Int) {ss : List Int} (hn : 0 < ss.length) (hb : ss.length ≤ 90000) (hs : ∀ s ∈ ss, 0 ≤ s ∧ s ≤ 1000000000000) : ∃ p x, f__law_higher cell ss = .ok [p, x] ∧ 0 ≤ p ∧ p < ss.length ∧ sAt ss p ≤ x := by
  unfold f__law_higher c__law_higher
  rw [pow12]
  simp only [mbk]
  obtain ⟨ds, e, dr⟩ := drawsK cell (sizes := [(ss.length : Int), 4, (ss.length : Int), 1000000000000 + 1]) (by show (4 : Nat) ≤ 100000; decide) (by
    intro s h
    simp only [List.mem_cons, List.not_mem_nil, or_false] at h
    rcases h with h | h | h | h <;> subst h <;> omega)
  rw [q_draws, e]
  obtain ⟨d0, x0, _, l0, u0⟩ := dr.at 0 rfl
  obtain ⟨d1, x1, _, l1, u1⟩ := dr.at 1 rfl
  obtain ⟨d2, x2, _, l2, u2⟩ := dr.at 2 rfl
  obtain ⟨d3, x3, _, l3, u3⟩ := dr.at 3 rfl
  have y0 : ixM ds 0 = .ok d0 := x0
  have y1 : ixM ds 1 = .ok d1 := x1
  have y2 : ixM ds 2 = .ok d2 := x2
  have y3 : ixM ds 3 = .ok d3 := x3
  simp only [mbk, y0, y1, y2, y3, ixS l0 u0, ixS l2 u2]
  obtain ⟨w, _, ew⟩ := ixK (xs := [sAt ss d0 + 1, sAt ss d2, sAt ss d2 + 1, d3]) l1 (by simpa using u1)
  rw [ew]
  refine ⟨d0, min 1000000000000 (max (sAt ss d0) w), rfl, l0, u0, ?_⟩
  have := (hs _ (sAt_mem (xs := ss) l0 u0)).2
  omega
theorem law_true : ∀ ns : List Int, ns.length ≤ 63 → f_law ns = .ok true := by
  intro ns _
  unfold f_law c_law
  rw [q_cell, q_draws, q_lengths, q_strengths, q_init]
  obtain ⟨c0, e0⟩ := cellK ns (k := 0) (by decide)
  obtain ⟨c1, e1⟩ := cellK ns (k := 1) (by decide)
  obtain ⟨c2, e2⟩ := cellK ns (k := 2) (by decide)
  obtain ⟨c3, e3⟩ := cellK ns (k := 3) (by decide)
  obtain ⟨c4, e4⟩ := cellK ns (k := 4) (by decide)
  obtain ⟨c5, e5⟩ := cellK ns (k := 5) (by decide)
  rw [e0, e1, e2, e3, e4, e5]
  simp only [mbk]
  obtain ⟨sh, es, ds⟩ := drawsK c0 (sizes := [3, 8, 8, 4, 3, 8, 8, 4, 5040]) (by decide) (by decide)
  rw [es]
  obtain ⟨d0, x0, _, l0, u0⟩ := ds.at 0 rfl
  obtain ⟨d1, x1, _, l1, u1⟩ := ds.at 1 rfl
  obtain ⟨d2, x2, _, l2, u2⟩ := ds.at 2 rfl
  obtain ⟨d3, x3, _, l3, u3⟩ := ds.at 3 rfl
  obtain ⟨d4, x4, _, l4, u4⟩ := ds.at 4 rfl
  obtain ⟨d5, x5, _, l5, u5⟩ := ds.at 5 rfl
  obtain ⟨d6, x6, _, l6, u6⟩ := ds.at 6 rfl
  obtain ⟨d7, x7, _, l7, u7⟩ := ds.at 7 rfl
  obtain ⟨d8, x8, _, l8, u8⟩ := ds.at 8 rfl
  have y0 : ixM sh 0 = .ok d0 := x0
  have y1 : ixM sh 1 = .ok d1 := x1
  have y2 : ixM sh 2 = .ok d2 := x2
  have y3 : ixM sh 3 = .ok d3 := x3
  have y4 : ixM sh 4 = .ok d4 := x4
  have y5 : ixM sh 5 = .ok d5 := x5
  have y6 : ixM sh 6 = .ok d6 := x6
  have y7 : ixM sh 7 = .ok d7 := x7
  have y8 : ixM sh 8 = .ok d8 := x8
  simp only [mbk, y0, y1, y2, y3, y4, y5, y6, y7, y8]
  have s1 : (if (decide (d1 = 1)) = true then .ok (.nx (9 + d3)) else .ok (.nx (1 + d2)) : M (Out Int Empty Bool)) = .ok (.nx (if d1 = 1 then 9 + d3 else 1 + d2)) := by
    by_cases h : d1 = 1 <;> simp [h]
  rw [s1, sqk]
  generalize hn1 : (if d1 = 1 then 9 + d3 else 1 + d2) = n
  have b1 : 1 ≤ n ∧ n ≤ 12 := by
    rw [← hn1]; split <;> omega
  have s2 : (if (decide (d5 = 1)) = true then .ok (.nx (9 + d7)) else .ok (.nx (1 + d6)) : M (Out Int Empty Bool)) = .ok (.nx (if d5 = 1 then 9 + d7 else 1 + d6)) := by
    by_cases h : d5 = 1 <;> simp [h]
  rw [s2, sqk]
  generalize hn2 : (if d5 = 1 then 9 + d7 else 1 + d6) = n'
  have b2 : 1 ≤ n' ∧ n' ≤ 12 := by
    rw [← hn2]; split <;> omega
  obtain ⟨zs, ez, zl, zb⟩ := lengthsK c1 (many := n) (by omega) (by omega)
  obtain ⟨zs', ez', zl', zb'⟩ := lengthsK c3 (many := n') (by omega) (by omega)
  have t1 := (le_sum zb).2
  have t2 := (le_sum zb').2
  obtain ⟨ss, e6, sl, sb⟩ := strengthsB c2 (sizes := zs) (B := 1000000000000) (by omega) zb (by decide) (by omega)
  obtain ⟨ss', e7, sl', sb'⟩ := strengthsB c4 (sizes := zs') (B := 1000000000000) (by omega) zb' (by decide) (by omega)
  rw [ez, mbk, e6, mbk]
  generalize hr : decide (d0 < 2) = r
  generalize hr' : decide (r = decide (0 < d4)) = r'
  have g : Good ⟨ss, zs, r⟩ := ⟨by show 0 < ss.length; omega, by show zs.length = ss.length; omega, by show ss.length ≤ 90000; omega, fun s hs => (sb s hs).1, fun z hz => (zb z hz).1⟩
  have g' : Good ⟨ss', zs', r'⟩ := ⟨by show 0 < ss'.length; omega, by show zs'.length = ss'.length; omega, by show ss'.length ≤ 90000; omega, fun s hs => (sb' s hs).1, fun z hz => (zb' z hz).1⟩
  have i0 : ∀ a b : List Int, ixM [a, b] 0 = .ok a := fun _ _ => rfl
  have i1 : ∀ a b : List Int, ixM [a, b] 1 = .ok b := fun _ _ => rfl
  simp only [i0, i1, mbk]
  rw [initK g, mbk, ez', mbk, e7]
  simp only [i0, i1, mbk]
  rw [initK g', mbk]
  obtain ⟨p, x, eh, p0, p1, px⟩ := higherK c5 (ss := ss) (by omega) (by omega) sb
  rw [eh, mbk]
  have j0 : ixM [p, x] 0 = .ok p := rfl
  have j1 : ixM [p, x] 1 = .ok x := rfl
  simp only [j0, j1, mbk]
  rw [raisedK g p0 p1 px]
  simp only [mbk, Bool.not_true]
  rw [if_neg (by decide), divK (by omega) (by omega)]
  simp only [mbk]
  have q1 : 1 ≤ 48 / n := by
    rw [Int.le_ediv_iff_mul_le (by omega)]; omega
  rw [modK (by omega)]
  simp only [mbk]
  have m0 := Int.emod_nonneg d8 (show min 20 (48 / n) ≠ 0 by omega)
  have m1 := Int.emod_lt_of_pos d8 (show 0 < min 20 (48 / n) by omega)
  generalize d8 % min 20 (48 / n) = w at *
  obtain ⟨t, ht⟩ := Int.eq_ofNat_of_zero_le (show 0 ≤ 1 + w by omega)
  have hsl : ss.length ≤ 12 := by omega
  have ht20 : t ≤ 20 := by omega
  rw [ht, repeatedK g (by omega) (Nat.le_trans (Nat.mul_le_mul hsl ht20) (by decide)) (by omega) (by omega)]
  simp only [mbk, Bool.not_true]
  rw [if_neg (by decide), joinedK g g (by omega)]
  simp only [mbk, Bool.not_true]
  rw [if_neg (by decide)]
  have fin : mb (f__law_is_standing ⟨ss', zs', r'⟩ r' zs' ss') (fun v => M.ok (!v)) = .ok false := by
    rw [q_standing, standingK (by omega) (by omega)]
    simp [mbk]
  have fin2 : (if (decide True) = true then f__law_is_standing ⟨ss, zs, r⟩ r zs ss else M.ok false) = M.ok true := by
    rw [if_pos (by decide), q_standing, standingK (by omega) (by omega)]
    simp
  by_cases hd : 0 < d4
  · have er : r' = r := by
      rw [← hr', decide_eq_true hd]; cases r <;> rfl
    subst er
    rw [if_pos (decide_eq_true hd), joinedK g g' (by omega)]
    simp only [mbk, Bool.not_true]
    rw [if_neg (by decide), sqk]
    simp only [hr', fin, mbk]
    rw [if_neg (by decide), fin2]
    rfl
  · have er : r' = !r := by
      rw [← hr', decide_eq_false hd]; cases r <;> rfl
    subst er
    have u1 : f__law_is_unlike ⟨ss, zs, r⟩ ⟨ss', zs', !r⟩ (!r) = .ok true := unlikeK (b := ⟨ss, zs, r⟩) (b' := ⟨ss', zs', !r⟩) (by cases r <;> simp)
    have u2 : f__law_is_unlike ⟨ss', zs', !r⟩ ⟨ss, zs, r⟩ r = .ok true := unlikeK (b := ⟨ss', zs', !r⟩) (b' := ⟨ss, zs, r⟩) (by cases r <;> simp)
    rw [if_neg (by simp [hd]), u1, u2]
    simp only [mbk, Bool.not_true]
    rw [if_neg (by decide)]
    simp only [mbk]
    rw [if_neg (by decide), sqk]
    simp only [hr', fin, mbk]
    rw [if_neg (by decide), fin2]
    rfl

/-! ### the top, the head -/
theorem all_mk {l : PySem.W.OpenLaw} {w : World} {K : PySem.W.Frag} {h : Heap} {mg : Str → Option Value} {fa0 : Addr} (X : K.In h) (G : h.Ns mainGlobals mg) (hfa : mg "law" = some (.ref fa0))
    {c_Beads : Addr}
    {c_BadBeads : Addr}
    {c_BadPlace : Addr}
    {c_WrongKind : Addr}
    {f0 : Addr} {od0 an0 : Option Addr} {sl0 : Array (Option Value)} {oc0 kV0 dc0 pm0 cd0 ct0 : Value}
    {f1 : Addr} {od1 an1 : Option Addr} {sl1 : Array (Option Value)} {oc1 kV1 dc1 pm1 cd1 ct1 : Value}
    {f2 : Addr} {od2 an2 : Option Addr} {sl2 : Array (Option Value)} {oc2 kV2 dc2 pm2 cd2 ct2 : Value}
    {f3 : Addr} {od3 an3 : Option Addr} {sl3 : Array (Option Value)} {oc3 kV3 dc3 pm3 cd3 ct3 : Value}
    {f4 : Addr} {od4 an4 : Option Addr} {sl4 : Array (Option Value)} {oc4 dc4 pm4 cd4 ct4 : Value}
    {f5 : Addr} {od5 an5 : Option Addr} {sl5 : Array (Option Value)} {oc5 kV5 dc5 pm5 cd5 ct5 : Value}
    {f6 : Addr} {od6 an6 : Option Addr} {sl6 : Array (Option Value)} {oc6 kV6 dc6 pm6 cd6 ct6 : Value}
    {f7 : Addr} {od7 an7 : Option Addr} {sl7 : Array (Option Value)} {oc7 kV7 dc7 pm7 cd7 ct7 : Value}
    {f8 : Addr} {od8 an8 : Option Addr} {sl8 : Array (Option Value)} {oc8 kV8 dc8 pm8 cd8 ct8 : Value}
    {f9 : Addr} {od9 an9 : Option Addr} {sl9 : Array (Option Value)} {oc9 kV9 dc9 pm9 cd9 ct9 : Value}
    {f10 : Addr} {od10 an10 : Option Addr} {sl10 : Array (Option Value)} {oc10 kV10 dc10 pm10 cd10 ct10 : Value}
    {f11 : Addr} {od11 an11 : Option Addr} {sl11 : Array (Option Value)} {oc11 kV11 dc11 pm11 cd11 ct11 : Value}
    {f12 : Addr} {od12 an12 : Option Addr} {sl12 : Array (Option Value)} {oc12 kV12 dc12 pm12 cd12 ct12 : Value}
    {f13 : Addr} {od13 an13 : Option Addr} {sl13 : Array (Option Value)} {oc13 kV13 dc13 pm13 cd13 ct13 : Value}
    {f14 : Addr} {od14 an14 : Option Addr} {sl14 : Array (Option Value)} {oc14 kV14 dc14 pm14 cd14 ct14 : Value}
    {f15 : Addr} {od15 an15 : Option Addr} {sl15 : Array (Option Value)} {oc15 kV15 dc15 pm15 cd15 ct15 : Value}
    {f16 : Addr} {od16 an16 : Option Addr} {sl16 : Array (Option Value)} {oc16 kV16 dc16 pm16 cd16 ct16 : Value}
    {f17 : Addr} {od17 an17 : Option Addr} {sl17 : Array (Option Value)} {oc17 kV17 dc17 pm17 cd17 ct17 : Value}
    {f18 : Addr} {od18 an18 : Option Addr} {sl18 : Array (Option Value)} {oc18 kV18 dc18 pm18 cd18 ct18 : Value}
    {f19 : Addr} {od19 an19 : Option Addr} {sl19 : Array (Option Value)} {oc19 kV19 dc19 pm19 cd19 ct19 : Value}
    {f20 : Addr} {od20 an20 : Option Addr} {sl20 : Array (Option Value)} {oc20 kV20 dc20 pm20 cd20 ct20 : Value}
    {f21 : Addr} {od21 an21 : Option Addr} {sl21 : Array (Option Value)} {oc21 kV21 dc21 pm21 cd21 ct21 : Value}
    {f22 : Addr} {od22 an22 : Option Addr} {sl22 : Array (Option Value)} {oc22 kV22 dc22 pm22 cd22 ct22 : Value}
    {f23 : Addr} {od23 an23 : Option Addr} {sl23 : Array (Option Value)} {oc23 kV23 dc23 pm23 cd23 ct23 : Value}
    {f24 : Addr} {od24 an24 : Option Addr} {sl24 : Array (Option Value)} {oc24 kV24 dc24 pm24 cd24 ct24 : Value}
    {f25 : Addr} {od25 an25 : Option Addr} {sl25 : Array (Option Value)} {oc25 kV25 dc25 pm25 cd25 ct25 : Value}
    {f26 : Addr} {od26 an26 : Option Addr} {sl26 : Array (Option Value)} {oc26 kV26 dc26 pm26 cd26 ct26 : Value}
    {f27 : Addr} {od27 an27 : Option Addr} {sl27 : Array (Option Value)} {oc27 kV27 dc27 pm27 cd27 ct27 : Value}
    {f28 : Addr} {od28 an28 : Option Addr} {sl28 : Array (Option Value)} {oc28 kV28 dc28 pm28 cd28 ct28 : Value}
    {f29 : Addr} {od29 an29 : Option Addr} {sl29 : Array (Option Value)} {oc29 kV29 dc29 pm29 cd29 ct29 : Value}
    {f30 : Addr} {od30 an30 : Option Addr} {sl30 : Array (Option Value)} {oc30 kV30 dc30 pm30 cd30 ct30 : Value}
    {f31 : Addr} {od31 an31 : Option Addr} {sl31 : Array (Option Value)} {oc31 kV31 dc31 pm31 cd31 ct31 : Value}
    {f32 : Addr} {od32 an32 : Option Addr} {sl32 : Array (Option Value)} {oc32 kV32 dc32 pm32 cd32 ct32 : Value}
    {T4 : Addr}
    {D4 : Addr}
    {oT4 : Value} {dT4 : Option Addr} {nT4 : Nat} {sT4 : Array (Option Value)}
    {fo_Beads ro_Beads : Option Value}
    {nm_BadBeads q_BadBeads : Str} {N_BadBeads : Addr} {bs_BadBeads bm_BadBeads : List Value} {sn_BadBeads : List Str} {sub_BadBeads : List Value} {ab_BadBeads : Bool} {col_BadBeads : Option Bool} {dd_BadBeads : Option Addr} {m0_BadBeads m1_BadBeads m2_BadBeads m3_BadBeads m5_BadBeads : Option Value}
    {nm_BadPlace q_BadPlace : Str} {N_BadPlace : Addr} {bs_BadPlace bm_BadPlace : List Value} {sn_BadPlace : List Str} {sub_BadPlace : List Value} {ab_BadPlace : Bool} {col_BadPlace : Option Bool} {dd_BadPlace : Option Addr} {m0_BadPlace m1_BadPlace m2_BadPlace m3_BadPlace m5_BadPlace : Option Value}
    {nm_WrongKind q_WrongKind : Str} {N_WrongKind : Addr} {bs_WrongKind bm_WrongKind : List Value} {sn_WrongKind : List Str} {sub_WrongKind : List Value} {ab_WrongKind : Bool} {col_WrongKind : Option Bool} {dd_WrongKind : Option Addr} {m0_WrongKind m1_WrongKind m2_WrongKind m3_WrongKind m5_WrongKind : Option Value}
    (aC_Beads : PySem.W.nsIn K mainGlobals "Beads" = some (some (.ref c_Beads)))
    (aC_BadBeads : PySem.W.nsIn K mainGlobals "BadBeads" = some (some (.ref c_BadBeads)))
    (aC_BadPlace : PySem.W.nsIn K mainGlobals "BadPlace" = some (some (.ref c_BadPlace)))
    (aC_WrongKind : PySem.W.nsIn K mainGlobals "WrongKind" = some (some (.ref c_WrongKind)))
    (a0 : PySem.W.nsIn K mainGlobals "_law_cell" = some (some (.ref f0)))
    (l0 : K.lookup f0 = some ⟨oc0, od0, .func (PySem.W.fnOf "_law_cell" "_law_cell" (defArgs s__law_cell) (defBody s__law_cell) (defScope s__law_cell) .none kV0 dc0 pm0 an0 cd0 ct0), sl0⟩)
    (co0 : PySem.W.codeIn K cd0 "_law_cell" = true)
    (k0 : PySem.W.keepIn K (.ref f0) = true)
    (a1 : PySem.W.nsIn K mainGlobals "_law_draws" = some (some (.ref f1)))
    (l1 : K.lookup f1 = some ⟨oc1, od1, .func (PySem.W.fnOf "_law_draws" "_law_draws" (defArgs s__law_draws) (defBody s__law_draws) (defScope s__law_draws) .none kV1 dc1 pm1 an1 cd1 ct1), sl1⟩)
    (co1 : PySem.W.codeIn K cd1 "_law_draws" = true)
    (k1 : PySem.W.keepIn K (.ref f1) = true)
    (a2 : PySem.W.nsIn K mainGlobals "_law_lengths" = some (some (.ref f2)))
    (l2 : K.lookup f2 = some ⟨oc2, od2, .func (PySem.W.fnOf "_law_lengths" "_law_lengths" (defArgs s__law_lengths) (defBody s__law_lengths) (defScope s__law_lengths) .none kV2 dc2 pm2 an2 cd2 ct2), sl2⟩)
    (co2 : PySem.W.codeIn K cd2 "_law_lengths" = true)
    (k2 : PySem.W.keepIn K (.ref f2) = true)
    (a3 : PySem.W.nsIn K mainGlobals "_law_strengths" = some (some (.ref f3)))
    (l3 : K.lookup f3 = some ⟨oc3, od3, .func (PySem.W.fnOf "_law_strengths" "_law_strengths" (defArgs s__law_strengths) (defBody s__law_strengths) (defScope s__law_strengths) .none kV3 dc3 pm3 an3 cd3 ct3), sl3⟩)
    (co3 : PySem.W.codeIn K cd3 "_law_strengths" = true)
    (k3 : PySem.W.keepIn K (.ref f3) = true)
    (a4 : PySem.W.findIn K (.ref c_Beads) "__init__" = some (some (.ref f4)))
    (l4 : K.lookup f4 = some ⟨oc4, od4, .func (PySem.W.fnOf "__init__" "Beads.__init__" (defArgs s_Beads___init__) (defBody s_Beads___init__) (defScope s_Beads___init__) (.ref T4) (.ref D4) dc4 pm4 an4 cd4 ct4), sl4⟩)
    (co4 : PySem.W.codeIn K cd4 "Beads.__init__" = true)
    (k4 : PySem.W.keepIn K (.ref f4) = true)
    (lT4 : K.lookup T4 = some ⟨oT4, dT4, .seq [.none].toArray nT4, sT4⟩)
    (w4_ring : PySem.W.nsIn K D4 "ring" = some (some (.bool true)))
    (a5 : PySem.W.nsIn K mainGlobals "_law_higher" = some (some (.ref f5)))
    (l5 : K.lookup f5 = some ⟨oc5, od5, .func (PySem.W.fnOf "_law_higher" "_law_higher" (defArgs s__law_higher) (defBody s__law_higher) (defScope s__law_higher) .none kV5 dc5 pm5 an5 cd5 ct5), sl5⟩)
    (co5 : PySem.W.codeIn K cd5 "_law_higher" = true)
    (k5 : PySem.W.keepIn K (.ref f5) = true)
    (a6 : PySem.W.nsIn K mainGlobals "_law_reach" = some (some (.ref f6)))
    (l6 : K.lookup f6 = some ⟨oc6, od6, .func (PySem.W.fnOf "_law_reach" "_law_reach" (defArgs s__law_reach) (defBody s__law_reach) (defScope s__law_reach) .none kV6 dc6 pm6 an6 cd6 ct6), sl6⟩)
    (co6 : PySem.W.codeIn K cd6 "_law_reach" = true)
    (k6 : PySem.W.keepIn K (.ref f6) = true)
    (a7 : PySem.W.nsIn K mainGlobals "_law_all" = some (some (.ref f7)))
    (l7 : K.lookup f7 = some ⟨oc7, od7, .func (PySem.W.fnOf "_law_all" "_law_all" (defArgs s__law_all) (defBody s__law_all) (defScope s__law_all) .none kV7 dc7 pm7 an7 cd7 ct7), sl7⟩)
    (co7 : PySem.W.codeIn K cd7 "_law_all" = true)
    (k7 : PySem.W.keepIn K (.ref f7) = true)
    (a8 : PySem.W.findIn K (.ref c_Beads) "__len__" = some (some (.ref f8)))
    (l8 : K.lookup f8 = some ⟨oc8, od8, .func (PySem.W.fnOf "__len__" "Beads.__len__" (defArgs s_Beads___len__) (defBody s_Beads___len__) (defScope s_Beads___len__) .none kV8 dc8 pm8 an8 cd8 ct8), sl8⟩)
    (co8 : PySem.W.codeIn K cd8 "Beads.__len__" = true)
    (k8 : PySem.W.keepIn K (.ref f8) = true)
    (a9 : PySem.W.nsIn K mainGlobals "check_place" = some (some (.ref f9)))
    (l9 : K.lookup f9 = some ⟨oc9, od9, .func (PySem.W.fnOf "check_place" "check_place" (defArgs s_check_place) (defBody s_check_place) (defScope s_check_place) .none kV9 dc9 pm9 an9 cd9 ct9), sl9⟩)
    (co9 : PySem.W.codeIn K cd9 "check_place" = true)
    (k9 : PySem.W.keepIn K (.ref f9) = true)
    (a10 : PySem.W.nsIn K mainGlobals "run_of" = some (some (.ref f10)))
    (l10 : K.lookup f10 = some ⟨oc10, od10, .func (PySem.W.fnOf "run_of" "run_of" (defArgs s_run_of) (defBody s_run_of) (defScope s_run_of) .none kV10 dc10 pm10 an10 cd10 ct10), sl10⟩)
    (co10 : PySem.W.codeIn K cd10 "run_of" = true)
    (k10 : PySem.W.keepIn K (.ref f10) = true)
    (a11 : PySem.W.nsIn K mainGlobals "train_of" = some (some (.ref f11)))
    (l11 : K.lookup f11 = some ⟨oc11, od11, .func (PySem.W.fnOf "train_of" "train_of" (defArgs s_train_of) (defBody s_train_of) (defScope s_train_of) .none kV11 dc11 pm11 an11 cd11 ct11), sl11⟩)
    (co11 : PySem.W.codeIn K cd11 "train_of" = true)
    (k11 : PySem.W.keepIn K (.ref f11) = true)
    (a12 : PySem.W.nsIn K mainGlobals "reach_of" = some (some (.ref f12)))
    (l12 : K.lookup f12 = some ⟨oc12, od12, .func (PySem.W.fnOf "reach_of" "reach_of" (defArgs s_reach_of) (defBody s_reach_of) (defScope s_reach_of) .none kV12 dc12 pm12 an12 cd12 ct12), sl12⟩)
    (co12 : PySem.W.codeIn K cd12 "reach_of" = true)
    (k12 : PySem.W.keepIn K (.ref f12) = true)
    (a13 : PySem.W.nsIn K mainGlobals "reaches" = some (some (.ref f13)))
    (l13 : K.lookup f13 = some ⟨oc13, od13, .func (PySem.W.fnOf "reaches" "reaches" (defArgs s_reaches) (defBody s_reaches) (defScope s_reaches) .none kV13 dc13 pm13 an13 cd13 ct13), sl13⟩)
    (co13 : PySem.W.codeIn K cd13 "reaches" = true)
    (k13 : PySem.W.keepIn K (.ref f13) = true)
    (a14 : PySem.W.nsIn K mainGlobals "_law_is_integer" = some (some (.ref f14)))
    (l14 : K.lookup f14 = some ⟨oc14, od14, .func (PySem.W.fnOf "_law_is_integer" "_law_is_integer" (defArgs s__law_is_integer) (defBody s__law_is_integer) (defScope s__law_is_integer) .none kV14 dc14 pm14 an14 cd14 ct14), sl14⟩)
    (co14 : PySem.W.codeIn K cd14 "_law_is_integer" = true)
    (k14 : PySem.W.keepIn K (.ref f14) = true)
    (a15 : PySem.W.nsIn K mainGlobals "_law_numbers" = some (some (.ref f15)))
    (l15 : K.lookup f15 = some ⟨oc15, od15, .func (PySem.W.fnOf "_law_numbers" "_law_numbers" (defArgs s__law_numbers) (defBody s__law_numbers) (defScope s__law_numbers) .none kV15 dc15 pm15 an15 cd15 ct15), sl15⟩)
    (co15 : PySem.W.codeIn K cd15 "_law_numbers" = true)
    (k15 : PySem.W.keepIn K (.ref f15) = true)
    (a16 : PySem.W.findIn K (.ref c_Beads) "with_strength" = some (some (.ref f16)))
    (l16 : K.lookup f16 = some ⟨oc16, od16, .func (PySem.W.fnOf "with_strength" "Beads.with_strength" (defArgs s_Beads_with_strength) (defBody s_Beads_with_strength) (defScope s_Beads_with_strength) .none kV16 dc16 pm16 an16 cd16 ct16), sl16⟩)
    (co16 : PySem.W.codeIn K cd16 "Beads.with_strength" = true)
    (k16 : PySem.W.keepIn K (.ref f16) = true)
    (a17 : PySem.W.nsIn K mainGlobals "_law_is_raised" = some (some (.ref f17)))
    (l17 : K.lookup f17 = some ⟨oc17, od17, .func (PySem.W.fnOf "_law_is_raised" "_law_is_raised" (defArgs s__law_is_raised) (defBody s__law_is_raised) (defScope s__law_is_raised) .none kV17 dc17 pm17 an17 cd17 ct17), sl17⟩)
    (co17 : PySem.W.codeIn K cd17 "_law_is_raised" = true)
    (k17 : PySem.W.keepIn K (.ref f17) = true)
    (a18 : PySem.W.findIn K (.ref c_Beads) "__mul__" = some (some (.ref f18)))
    (l18 : K.lookup f18 = some ⟨oc18, od18, .func (PySem.W.fnOf "__mul__" "Beads.__mul__" (defArgs s_Beads___mul__) (defBody s_Beads___mul__) (defScope s_Beads___mul__) .none kV18 dc18 pm18 an18 cd18 ct18), sl18⟩)
    (co18 : PySem.W.codeIn K cd18 "Beads.__mul__" = true)
    (k18 : PySem.W.keepIn K (.ref f18) = true)
    (a19 : PySem.W.nsIn K mainGlobals "_law_is_standing" = some (some (.ref f19)))
    (l19 : K.lookup f19 = some ⟨oc19, od19, .func (PySem.W.fnOf "_law_is_standing" "_law_is_standing" (defArgs s__law_is_standing) (defBody s__law_is_standing) (defScope s__law_is_standing) .none kV19 dc19 pm19 an19 cd19 ct19), sl19⟩)
    (co19 : PySem.W.codeIn K cd19 "_law_is_standing" = true)
    (k19 : PySem.W.keepIn K (.ref f19) = true)
    (a20 : PySem.W.findIn K (.ref c_Beads) "total" = some (some (.ref f20)))
    (l20 : K.lookup f20 = some ⟨oc20, od20, .func (PySem.W.fnOf "total" "Beads.total" (defArgs s_Beads_total) (defBody s_Beads_total) (defScope s_Beads_total) .none kV20 dc20 pm20 an20 cd20 ct20), sl20⟩)
    (co20 : PySem.W.codeIn K cd20 "Beads.total" = true)
    (k20 : PySem.W.keepIn K (.ref f20) = true)
    (a21 : PySem.W.findIn K (.ref c_Beads) "greatest" = some (some (.ref f21)))
    (l21 : K.lookup f21 = some ⟨oc21, od21, .func (PySem.W.fnOf "greatest" "Beads.greatest" (defArgs s_Beads_greatest) (defBody s_Beads_greatest) (defScope s_Beads_greatest) .none kV21 dc21 pm21 an21 cd21 ct21), sl21⟩)
    (co21 : PySem.W.codeIn K cd21 "Beads.greatest" = true)
    (k21 : PySem.W.keepIn K (.ref f21) = true)
    (a22 : PySem.W.nsIn K mainGlobals "_law_is_counted" = some (some (.ref f22)))
    (l22 : K.lookup f22 = some ⟨oc22, od22, .func (PySem.W.fnOf "_law_is_counted" "_law_is_counted" (defArgs s__law_is_counted) (defBody s__law_is_counted) (defScope s__law_is_counted) .none kV22 dc22 pm22 an22 cd22 ct22), sl22⟩)
    (co22 : PySem.W.codeIn K cd22 "_law_is_counted" = true)
    (k22 : PySem.W.keepIn K (.ref f22) = true)
    (a23 : PySem.W.nsIn K mainGlobals "_law_is_repeated" = some (some (.ref f23)))
    (l23 : K.lookup f23 = some ⟨oc23, od23, .func (PySem.W.fnOf "_law_is_repeated" "_law_is_repeated" (defArgs s__law_is_repeated) (defBody s__law_is_repeated) (defScope s__law_is_repeated) .none kV23 dc23 pm23 an23 cd23 ct23), sl23⟩)
    (co23 : PySem.W.codeIn K cd23 "_law_is_repeated" = true)
    (k23 : PySem.W.keepIn K (.ref f23) = true)
    (a24 : PySem.W.findIn K (.ref c_Beads) "__add__" = some (some (.ref f24)))
    (l24 : K.lookup f24 = some ⟨oc24, od24, .func (PySem.W.fnOf "__add__" "Beads.__add__" (defArgs s_Beads___add__) (defBody s_Beads___add__) (defScope s_Beads___add__) .none kV24 dc24 pm24 an24 cd24 ct24), sl24⟩)
    (co24 : PySem.W.codeIn K cd24 "Beads.__add__" = true)
    (k24 : PySem.W.keepIn K (.ref f24) = true)
    (a25 : PySem.W.nsIn K mainGlobals "_law_is_joined" = some (some (.ref f25)))
    (l25 : K.lookup f25 = some ⟨oc25, od25, .func (PySem.W.fnOf "_law_is_joined" "_law_is_joined" (defArgs s__law_is_joined) (defBody s__law_is_joined) (defScope s__law_is_joined) .none kV25 dc25 pm25 an25 cd25 ct25), sl25⟩)
    (co25 : PySem.W.codeIn K cd25 "_law_is_joined" = true)
    (k25 : PySem.W.keepIn K (.ref f25) = true)
    (a26 : PySem.W.nsIn K mainGlobals "_law_sum" = some (some (.ref f26)))
    (l26 : K.lookup f26 = some ⟨oc26, od26, .func (PySem.W.fnOf "_law_sum" "_law_sum" (defArgs s__law_sum) (defBody s__law_sum) (defScope s__law_sum) .none kV26 dc26 pm26 an26 cd26 ct26), sl26⟩)
    (co26 : PySem.W.codeIn K cd26 "_law_sum" = true)
    (k26 : PySem.W.keepIn K (.ref f26) = true)
    (a27 : PySem.W.nsIn K mainGlobals "_law_is_unlike" = some (some (.ref f27)))
    (l27 : K.lookup f27 = some ⟨oc27, od27, .func (PySem.W.fnOf "_law_is_unlike" "_law_is_unlike" (defArgs s__law_is_unlike) (defBody s__law_is_unlike) (defScope s__law_is_unlike) .none kV27 dc27 pm27 an27 cd27 ct27), sl27⟩)
    (co27 : PySem.W.codeIn K cd27 "_law_is_unlike" = true)
    (k27 : PySem.W.keepIn K (.ref f27) = true)
    (a28 : PySem.W.nsIn K mainGlobals "law" = some (some (.ref f28)))
    (l28 : K.lookup f28 = some ⟨oc28, od28, .func (PySem.W.fnOf "law" "law" (defArgs s_law) (defBody s_law) (defScope s_law) .none kV28 dc28 pm28 an28 cd28 ct28), sl28⟩)
    (co28 : PySem.W.codeIn K cd28 "law" = true)
    (k28 : PySem.W.keepIn K (.ref f28) = true)
    (a29 : PySem.W.findIn K (.ref c_BadBeads) "__init__" = some (some (.ref f29)))
    (l29 : K.lookup f29 = some ⟨oc29, od29, .func (PySem.W.fnOf "__init__" "BadBeads.__init__" (defArgs s_BadBeads___init__) (defBody s_BadBeads___init__) (defScope s_BadBeads___init__) .none kV29 dc29 pm29 an29 cd29 ct29), sl29⟩)
    (co29 : PySem.W.codeIn K cd29 "BadBeads.__init__" = true)
    (k29 : PySem.W.keepIn K (.ref f29) = true)
    (a30 : PySem.W.findIn K (.ref c_BadPlace) "__init__" = some (some (.ref f30)))
    (l30 : K.lookup f30 = some ⟨oc30, od30, .func (PySem.W.fnOf "__init__" "BadPlace.__init__" (defArgs s_BadPlace___init__) (defBody s_BadPlace___init__) (defScope s_BadPlace___init__) .none kV30 dc30 pm30 an30 cd30 ct30), sl30⟩)
    (co30 : PySem.W.codeIn K cd30 "BadPlace.__init__" = true)
    (k30 : PySem.W.keepIn K (.ref f30) = true)
    (a31 : PySem.W.findIn K (.ref c_WrongKind) "__init__" = some (some (.ref f31)))
    (l31 : K.lookup f31 = some ⟨oc31, od31, .func (PySem.W.fnOf "__init__" "WrongKind.__init__" (defArgs s_WrongKind___init__) (defBody s_WrongKind___init__) (defScope s_WrongKind___init__) .none kV31 dc31 pm31 an31 cd31 ct31), sl31⟩)
    (co31 : PySem.W.codeIn K cd31 "WrongKind.__init__" = true)
    (k31 : PySem.W.keepIn K (.ref f31) = true)
    (a32 : PySem.W.findIn K (.ref c_Beads) "__iter__" = some (some (.ref f32)))
    (l32 : K.lookup f32 = some ⟨oc32, od32, .func (PySem.W.fnOf "__iter__" "Beads.__iter__" (defArgs s_Beads___iter__) (defBody s_Beads___iter__) (defScope s_Beads___iter__) .none kV32 dc32 pm32 an32 cd32 ct32), sl32⟩)
    (co32 : PySem.W.codeIn K cd32 "Beads.__iter__" = true)
    (k32 : PySem.W.keepIn K (.ref f32) = true)
    (z_bool : PySem.W.nsIn K mainGlobals "bool" = some none)
    (z_int : PySem.W.nsIn K mainGlobals "int" = some none)
    (z_isinstance : PySem.W.nsIn K mainGlobals "isinstance" = some none)
    (z_iter : PySem.W.nsIn K mainGlobals "iter" = some none)
    (z_len : PySem.W.nsIn K mainGlobals "len" = some none)
    (z_list : PySem.W.nsIn K mainGlobals "list" = some none)
    (z_max : PySem.W.nsIn K mainGlobals "max" = some none)
    (z_min : PySem.W.nsIn K mainGlobals "min" = some none)
    (z_range : PySem.W.nsIn K mainGlobals "range" = some none)
    (z_sum : PySem.W.nsIn K mainGlobals "sum" = some none)
    (z_tuple : PySem.W.nsIn K mainGlobals "tuple" = some none)
    (sf_Beads : PySem.W.selfFirst K c_Beads = true)
    (bmr_Beads : PySem.W.findIn K (.ref c_Beads) (dunderR "mul") = some none)
    (bmf_Beads : PySem.W.findIn K (.type "int") (PySem.dunder "mul") = some fo_Beads)
    (bmo_Beads : PySem.W.findIn K (.type "int") (dunderR "mul") = some ro_Beads)
    (bms_Beads : PySem.W.subIn K (.type "int") (.ref c_Beads) = some false)
    (pg_Beads : PySem.W.plainGet K c_Beads Str.empty = true)
    (hd_Beads : PySem.W.hasDictIn K c_Beads = true)
    (po_Beads : PySem.W.plainOver K c_Beads = true)
    (sa_Beads : PySem.W.findIn K (.ref c_Beads) "__setattr__" = some (some (.builtin "object.__setattr__")))
    (mk_Beads : PySem.W.makesIn K c_Beads = true)
    (kc_Beads : PySem.W.keepIn K (.ref c_Beads) = true)
    (fn_Beads : PySem.W.isFn K (.ref f4) = true)
    (cc_Beads : PySem.W.findIn K (.ref c_Beads) "__class__" = some (some (.builtin "object.__class__")))
    (mr_Beads : PySem.W.mroIn K c_Beads (.type "object") = some true)
    (sp_ : PySem.W.specialIn K (.builtin "object.__class__") "__get__" = some (some (.builtin "getset_descriptor.__get__")))
    (tk_ : PySem.W.takesIn K (.builtin "object.__class__") = some true)
    (na_Beads_strengths : PySem.W.findIn K (.ref c_Beads) "strengths" = some none)
    (na_Beads_lengths : PySem.W.findIn K (.ref c_Beads) "lengths" = some none)
    (na_Beads_ring : PySem.W.findIn K (.ref c_Beads) "ring" = some none)
    (xn_BadBeads_place : PySem.W.findIn K (.ref c_BadBeads) "place" = some none)
    (fn_Beads___len__ : PySem.W.isFn K (.ref f8) = true)
    (xn_BadPlace_place : PySem.W.findIn K (.ref c_BadPlace) "place" = some none)
    (fn_Beads_with_strength : PySem.W.isFn K (.ref f16) = true)
    (fn_Beads___mul__ : PySem.W.isFn K (.ref f18) = true)
    (fn_Beads_total : PySem.W.isFn K (.ref f20) = true)
    (fn_Beads_greatest : PySem.W.isFn K (.ref f21) = true)
    (fn_Beads___iter__ : PySem.W.isFn K (.ref f32) = true)
    (xn_WrongKind_ring : PySem.W.findIn K (.ref c_WrongKind) "ring" = some none)
    (fn_Beads___add__ : PySem.W.isFn K (.ref f24) = true)
    (xL_BadBeads : K.lookup c_BadBeads = some (excClassObj nm_BadBeads q_BadBeads c_BadBeads N_BadBeads bs_BadBeads bm_BadBeads true sn_BadBeads sub_BadBeads ab_BadBeads col_BadBeads dd_BadBeads m0_BadBeads m1_BadBeads m2_BadBeads m3_BadBeads m5_BadBeads "ValueError.__new__"))
    (rv_BadBeads : PySem.HandSPX.refsVE bm_BadBeads = true)
    (xs_BadBeads : PySem.W.findIn K (.ref c_BadBeads) "__setattr__" = some (some (.builtin "object.__setattr__")))
    (xg_BadBeads : PySem.W.findIn K (.ref c_BadBeads) "__getattribute__" = some (some (.builtin "BaseException.__getattribute__")))
    (xh_BadBeads : PySem.W.findIn K (.ref c_BadBeads) "__getattr__" = some none)
    (xi_BadBeads : PySem.W.findIn K (.ref c_BadBeads) "__init__" = some (some (.ref f29)))
    (xt_BadBeads : PySem.W.typeIn K (.ref f29) = some (.type "function"))
    (xk_BadBeads : PySem.W.keepIn K (.ref c_BadBeads) = true)
    (xe_BadBeads : PySem.W.subIn K (.ref c_BadBeads) (.type "BaseException") = some true)
    (xy_BadBeads : PySem.W.typeIn K (.ref c_BadBeads) = some (.type "type"))
    (xd_BadBeads : PySem.W.hasDictIn K c_BadBeads = true)
    (xc_BadBeads : PySem.W.isClsIn K c_BadBeads = true)
    (xq_BadBeads : PySem.W.subIn K (.ref c_BadBeads) (.ref c_BadBeads) = some true)
    (xL_BadPlace : K.lookup c_BadPlace = some (excClassObj nm_BadPlace q_BadPlace c_BadPlace N_BadPlace bs_BadPlace bm_BadPlace true sn_BadPlace sub_BadPlace ab_BadPlace col_BadPlace dd_BadPlace m0_BadPlace m1_BadPlace m2_BadPlace m3_BadPlace m5_BadPlace "ValueError.__new__"))
    (rv_BadPlace : PySem.HandSPX.refsVE bm_BadPlace = true)
    (xs_BadPlace : PySem.W.findIn K (.ref c_BadPlace) "__setattr__" = some (some (.builtin "object.__setattr__")))
    (xg_BadPlace : PySem.W.findIn K (.ref c_BadPlace) "__getattribute__" = some (some (.builtin "BaseException.__getattribute__")))
    (xh_BadPlace : PySem.W.findIn K (.ref c_BadPlace) "__getattr__" = some none)
    (xi_BadPlace : PySem.W.findIn K (.ref c_BadPlace) "__init__" = some (some (.ref f30)))
    (xt_BadPlace : PySem.W.typeIn K (.ref f30) = some (.type "function"))
    (xk_BadPlace : PySem.W.keepIn K (.ref c_BadPlace) = true)
    (xe_BadPlace : PySem.W.subIn K (.ref c_BadPlace) (.type "BaseException") = some true)
    (xy_BadPlace : PySem.W.typeIn K (.ref c_BadPlace) = some (.type "type"))
    (xd_BadPlace : PySem.W.hasDictIn K c_BadPlace = true)
    (xc_BadPlace : PySem.W.isClsIn K c_BadPlace = true)
    (xq_BadPlace : PySem.W.subIn K (.ref c_BadPlace) (.ref c_BadPlace) = some true)
    (xL_WrongKind : K.lookup c_WrongKind = some (excClassObj nm_WrongKind q_WrongKind c_WrongKind N_WrongKind bs_WrongKind bm_WrongKind true sn_WrongKind sub_WrongKind ab_WrongKind col_WrongKind dd_WrongKind m0_WrongKind m1_WrongKind m2_WrongKind m3_WrongKind m5_WrongKind "ValueError.__new__"))
    (rv_WrongKind : PySem.HandSPX.refsVE bm_WrongKind = true)
    (xs_WrongKind : PySem.W.findIn K (.ref c_WrongKind) "__setattr__" = some (some (.builtin "object.__setattr__")))
    (xg_WrongKind : PySem.W.findIn K (.ref c_WrongKind) "__getattribute__" = some (some (.builtin "BaseException.__getattribute__")))
    (xh_WrongKind : PySem.W.findIn K (.ref c_WrongKind) "__getattr__" = some none)
    (xi_WrongKind : PySem.W.findIn K (.ref c_WrongKind) "__init__" = some (some (.ref f31)))
    (xt_WrongKind : PySem.W.typeIn K (.ref f31) = some (.type "function"))
    (xk_WrongKind : PySem.W.keepIn K (.ref c_WrongKind) = true)
    (xe_WrongKind : PySem.W.subIn K (.ref c_WrongKind) (.type "BaseException") = some true)
    (xy_WrongKind : PySem.W.typeIn K (.ref c_WrongKind) = some (.type "type"))
    (xd_WrongKind : PySem.W.hasDictIn K c_WrongKind = true)
    (xc_WrongKind : PySem.W.isClsIn K c_WrongKind = true)
    (xq_WrongKind : PySem.W.subIn K (.ref c_WrongKind) (.ref c_WrongKind) = some true)
    : ∃ fd : FuncData, (∀ (s : Shared) (v : Value), BindsTo s fd ⟨[v], []⟩ [("script", v)]) ∧ ∀ base : Heap, K.In base → base.Ns mainGlobals mg → FnOk l.prog w K mg base (L2N.CX l.prog w) 9 fa0 fd ["script"] (spLaw K) := by
  have e := hfa.symm.trans (PySem.W.mg_of X G a28)
  cases e
  have F0 := fun_mk (st := s__law_cell) l0 co0 k0
  have b0 := F0.binds (ps := ["script", "k"]) fun _ _ _ _ _ _ us hl => match us, hl with | [_, _], _ => rfl
  have F1 := fun_mk (st := s__law_draws) l1 co1 k1
  have b1 := F1.binds (ps := ["cell", "sizes"]) fun _ _ _ _ _ _ us hl => match us, hl with | [_, _], _ => rfl
  have F2 := fun_mk (st := s__law_lengths) l2 co2 k2
  have b2 := F2.binds (ps := ["cell", "many"]) fun _ _ _ _ _ _ us hl => match us, hl with | [_, _], _ => rfl
  have F3 := fun_mk (st := s__law_strengths) l3 co3 k3
  have b3 := F3.binds (ps := ["cell", "sizes"]) fun _ _ _ _ _ _ us hl => match us, hl with | [_, _], _ => rfl
  have F4 : FunD K "__init__" "Beads.__init__" (defArgs s_Beads___init__) (defBody s_Beads___init__) (defScope s_Beads___init__) [.non] [("ring", .bl true)] f4 _ := ⟨⟨_, _, _, _, _, _, _, _, _, _, rfl, l4, co4, .inr ⟨by simp, T4, _, [.none], _, rfl, lT4, rfl, (.cons rfl .nil)⟩, .inr ⟨D4, rfl, (fun q hq => by rw [List.mem_singleton.mp hq]; exact ⟨_, w4_ring, rfl⟩)⟩⟩, k4⟩
  have F5 := fun_mk (st := s__law_higher) l5 co5 k5
  have b5 := F5.binds (ps := ["cell", "strengths"]) fun _ _ _ _ _ _ us hl => match us, hl with | [_, _], _ => rfl
  have F6 := fun_mk (st := s__law_reach) l6 co6 k6
  have b6 := F6.binds (ps := ["round_flag", "sizes", "strengths", "place"]) fun _ _ _ _ _ _ us hl => match us, hl with | [_, _, _, _], _ => rfl
  have F7 := fun_mk (st := s__law_all) l7 co7 k7
  have b7 := F7.binds (ps := ["round_flag", "sizes", "strengths"]) fun _ _ _ _ _ _ us hl => match us, hl with | [_, _, _], _ => rfl
  have F8 := fun_mk (st := s_Beads___len__) l8 co8 k8
  have b8 := F8.binds (ps := ["self"]) fun _ _ _ _ _ _ us hl => match us, hl with | [_], _ => rfl
  have F9 := fun_mk (st := s_check_place) l9 co9 k9
  have b9 := F9.binds (ps := ["place", "size"]) fun _ _ _ _ _ _ us hl => match us, hl with | [_, _], _ => rfl
  have F10 := fun_mk (st := s_run_of) l10 co10 k10
  have b10 := F10.binds (ps := ["beads", "place"]) fun _ _ _ _ _ _ us hl => match us, hl with | [_, _], _ => rfl
  have F11 := fun_mk (st := s_train_of) l11 co11 k11
  have b11 := F11.binds (ps := ["beads", "place"]) fun _ _ _ _ _ _ us hl => match us, hl with | [_, _], _ => rfl
  have F12 := fun_mk (st := s_reach_of) l12 co12 k12
  have b12 := F12.binds (ps := ["beads", "place"]) fun _ _ _ _ _ _ us hl => match us, hl with | [_, _], _ => rfl
  have F13 := fun_mk (st := s_reaches) l13 co13 k13
  have b13 := F13.binds (ps := ["beads"]) fun _ _ _ _ _ _ us hl => match us, hl with | [_], _ => rfl
  have F14 := fun_mk (st := s__law_is_integer) l14 co14 k14
  have b14 := F14.binds (ps := ["actual"]) fun _ _ _ _ _ _ us hl => match us, hl with | [_], _ => rfl
  have F15 := fun_mk (st := s__law_numbers) l15 co15 k15
  have b15 := F15.binds (ps := ["actual", "due", "as_tuple"]) fun _ _ _ _ _ _ us hl => match us, hl with | [_, _, _], _ => rfl
  have F16 := fun_mk (st := s_Beads_with_strength) l16 co16 k16
  have b16 := F16.binds (ps := ["self", "place", "strength"]) fun _ _ _ _ _ _ us hl => match us, hl with | [_, _, _], _ => rfl
  have F17 := fun_mk (st := s__law_is_raised) l17 co17 k17
  have b17 := F17.binds (ps := ["beads", "round_flag", "sizes", "strengths", "place", "strength"]) fun _ _ _ _ _ _ us hl => match us, hl with | [_, _, _, _, _, _], _ => rfl
  have F18 := fun_mk (st := s_Beads___mul__) l18 co18 k18
  have b18 := F18.binds (ps := ["self", "times"]) fun _ _ _ _ _ _ us hl => match us, hl with | [_, _], _ => rfl
  have F19 := fun_mk (st := s__law_is_standing) l19 co19 k19
  have b19 := F19.binds (ps := ["actual", "round_flag", "sizes", "strengths"]) fun _ _ _ _ _ _ us hl => match us, hl with | [_, _, _, _], _ => rfl
  have F20 := fun_mk (st := s_Beads_total) l20 co20 k20
  have b20 := F20.binds (ps := ["self"]) fun _ _ _ _ _ _ us hl => match us, hl with | [_], _ => rfl
  have F21 := fun_mk (st := s_Beads_greatest) l21 co21 k21
  have b21 := F21.binds (ps := ["self"]) fun _ _ _ _ _ _ us hl => match us, hl with | [_], _ => rfl
  have F22 := fun_mk (st := s__law_is_counted) l22 co22 k22
  have b22 := F22.binds (ps := ["beads", "sizes", "strengths"]) fun _ _ _ _ _ _ us hl => match us, hl with | [_, _, _], _ => rfl
  have F23 := fun_mk (st := s__law_is_repeated) l23 co23 k23
  have b23 := F23.binds (ps := ["beads", "round_flag", "sizes", "strengths", "times"]) fun _ _ _ _ _ _ us hl => match us, hl with | [_, _, _, _, _], _ => rfl
  have F24 := fun_mk (st := s_Beads___add__) l24 co24 k24
  have b24 := F24.binds (ps := ["self", "other"]) fun _ _ _ _ _ _ us hl => match us, hl with | [_, _], _ => rfl
  have F25 := fun_mk (st := s__law_is_joined) l25 co25 k25
  have b25 := F25.binds (ps := ["beads", "other", "round_flag", "sizes", "strengths", "given"]) fun _ _ _ _ _ _ us hl => match us, hl with | [_, _, _, _, _, _], _ => rfl
  have F26 := fun_mk (st := s__law_sum) l26 co26 k26
  have b26 := F26.binds (ps := ["beads", "other"]) fun _ _ _ _ _ _ us hl => match us, hl with | [_, _], _ => rfl
  have F27 := fun_mk (st := s__law_is_unlike) l27 co27 k27
  have b27 := F27.binds (ps := ["beads", "other", "due"]) fun _ _ _ _ _ _ us hl => match us, hl with | [_, _, _], _ => rfl
  have F28 := fun_mk (st := s_law) l28 co28 k28
  have b28 := F28.binds (ps := ["script"]) fun _ _ _ _ _ _ us hl => match us, hl with | [_], _ => rfl
  have F29 := fun_mk (st := s_BadBeads___init__) l29 co29 k29
  have b29 := F29.binds (ps := ["self", "place"]) fun _ _ _ _ _ _ us hl => match us, hl with | [_, _], _ => rfl
  have F30 := fun_mk (st := s_BadPlace___init__) l30 co30 k30
  have b30 := F30.binds (ps := ["self", "place"]) fun _ _ _ _ _ _ us hl => match us, hl with | [_, _], _ => rfl
  have F31 := fun_mk (st := s_WrongKind___init__) l31 co31 k31
  have b31 := F31.binds (ps := ["self", "ring"]) fun _ _ _ _ _ _ us hl => match us, hl with | [_, _], _ => rfl
  have F32 := fun_mk (st := s_Beads___iter__) l32 co32 k32
  have b32 := F32.binds (ps := ["self"]) fun _ _ _ _ _ _ us hl => match us, hl with | [_], _ => rfl
  obtain ⟨its_, mv_, kb_Beads⟩ := F4.kbinds (ps := ["self", "strengths", "lengths", "ring"]) 3 ["ring"] [] (fun us _ _ ws => us ++ ws) (by simp) (by simp) (by simp) (fun r1 _ _ r4 => r1.append r4) (fun T D doc pm an cdv ct us its mv ws h1 h2 h3 h4 => by
    match us, its, mv, ws, h1, h2, h3, h4 with
    | [_, _, _], [_], [], [_], _, _, _, _ => exact ⟨_, rfl, rfl⟩)
  have T : Tx K mg (caL [("Beads", c_Beads), ("BadBeads", c_BadBeads), ("BadPlace", c_BadPlace), ("WrongKind", c_WrongKind)]) (faL [f0, f1, f2, f3, f4, f5, f6, f7, f8, f9, f10, f11, f12, f13, f14, f15, f16, f17, f18, f19, f20, f21, f22, f23, f24, f25, f26, f27, fa0, f29, f30, f31, f32]) (fdL F28 [_, _, _, _, _, _, _, _, _, _, _, _, _, _, _, _, _, _, _, _, _, _, _, _, _, _, _, _, _, _, _, _, _]) := {
    F__law_cell := F0
    b__law_cell := b0
    g__law_cell := PySem.W.mg_of X G a0
    k__law_cell := k0
    F__law_draws := F1
    b__law_draws := b1
    g__law_draws := PySem.W.mg_of X G a1
    k__law_draws := k1
    F__law_lengths := F2
    b__law_lengths := b2
    g__law_lengths := PySem.W.mg_of X G a2
    k__law_lengths := k2
    F__law_strengths := F3
    b__law_strengths := b3
    g__law_strengths := PySem.W.mg_of X G a3
    k__law_strengths := k3
    F_Beads___init__ := F4
    F__law_higher := F5
    b__law_higher := b5
    g__law_higher := PySem.W.mg_of X G a5
    k__law_higher := k5
    F__law_reach := F6
    b__law_reach := b6
    g__law_reach := PySem.W.mg_of X G a6
    k__law_reach := k6
    F__law_all := F7
    b__law_all := b7
    g__law_all := PySem.W.mg_of X G a7
    k__law_all := k7
    F_Beads___len__ := F8
    b_Beads___len__ := b8
    F_check_place := F9
    b_check_place := b9
    g_check_place := PySem.W.mg_of X G a9
    k_check_place := k9
    F_run_of := F10
    b_run_of := b10
    g_run_of := PySem.W.mg_of X G a10
    k_run_of := k10
    F_train_of := F11
    b_train_of := b11
    g_train_of := PySem.W.mg_of X G a11
    k_train_of := k11
    F_reach_of := F12
    b_reach_of := b12
    g_reach_of := PySem.W.mg_of X G a12
    k_reach_of := k12
    F_reaches := F13
    b_reaches := b13
    g_reaches := PySem.W.mg_of X G a13
    k_reaches := k13
    F__law_is_integer := F14
    b__law_is_integer := b14
    g__law_is_integer := PySem.W.mg_of X G a14
    k__law_is_integer := k14
    F__law_numbers := F15
    b__law_numbers := b15
    g__law_numbers := PySem.W.mg_of X G a15
    k__law_numbers := k15
    F_Beads_with_strength := F16
    b_Beads_with_strength := b16
    F__law_is_raised := F17
    b__law_is_raised := b17
    g__law_is_raised := PySem.W.mg_of X G a17
    k__law_is_raised := k17
    F_Beads___mul__ := F18
    b_Beads___mul__ := b18
    F__law_is_standing := F19
    b__law_is_standing := b19
    g__law_is_standing := PySem.W.mg_of X G a19
    k__law_is_standing := k19
    F_Beads_total := F20
    b_Beads_total := b20
    F_Beads_greatest := F21
    b_Beads_greatest := b21
    F__law_is_counted := F22
    b__law_is_counted := b22
    g__law_is_counted := PySem.W.mg_of X G a22
    k__law_is_counted := k22
    F__law_is_repeated := F23
    b__law_is_repeated := b23
    g__law_is_repeated := PySem.W.mg_of X G a23
    k__law_is_repeated := k23
    F_Beads___add__ := F24
    b_Beads___add__ := b24
    F__law_is_joined := F25
    b__law_is_joined := b25
    g__law_is_joined := PySem.W.mg_of X G a25
    k__law_is_joined := k25
    F__law_sum := F26
    b__law_sum := b26
    g__law_sum := PySem.W.mg_of X G a26
    k__law_sum := k26
    F__law_is_unlike := F27
    b__law_is_unlike := b27
    g__law_is_unlike := PySem.W.mg_of X G a27
    k__law_is_unlike := k27
    F_law := F28
    b_law := b28
    F_BadBeads___init__ := F29
    b_BadBeads___init__ := b29
    F_BadPlace___init__ := F30
    b_BadPlace___init__ := b30
    F_WrongKind___init__ := F31
    b_WrongKind___init__ := b31
    F_Beads___iter__ := F32
    b_Beads___iter__ := b32
    n_len := PySem.W.mg_none_of X G z_len
    n_int := PySem.W.mg_none_of X G z_int
    n_range := PySem.W.mg_none_of X G z_range
    n_sum := PySem.W.mg_none_of X G z_sum
    n_list := PySem.W.mg_none_of X G z_list
    n_tuple := PySem.W.mg_none_of X G z_tuple
    cl_Beads := ⟨pg_Beads, hd_Beads, po_Beads, sa_Beads⟩
    na_Beads_strengths := na_Beads_strengths
    na_Beads_lengths := na_Beads_lengths
    na_Beads_ring := na_Beads_ring
    x_BadBeads := ⟨⟨⟨_, _, _, _, bm_BadBeads, _, _, _, _, _, _, _, _, _, _, xL_BadBeads, rv_BadBeads⟩, xs_BadBeads, xe_BadBeads, xy_BadBeads, xk_BadBeads⟩, ⟨xg_BadBeads, xh_BadBeads, xe_BadBeads, xd_BadBeads⟩, xi_BadBeads, xt_BadBeads, PySem.W.mg_of X G aC_BadBeads, PySem.W.exm_ref xe_BadBeads xd_BadBeads xy_BadBeads xq_BadBeads⟩
    xb_BadBeads := b29
    xn_BadBeads_place := xn_BadBeads_place
    mk_Beads := ⟨mk_Beads, a4, fn_Beads, kc_Beads⟩
    kb_Beads_3_ring := ⟨_, kb_Beads⟩
    n_min := PySem.W.mg_none_of X G z_min
    n_max := PySem.W.mg_none_of X G z_max
    m_Beads___len__ := ⟨a8, fn_Beads___len__, k8⟩
    x_BadPlace := ⟨⟨⟨_, _, _, _, bm_BadPlace, _, _, _, _, _, _, _, _, _, _, xL_BadPlace, rv_BadPlace⟩, xs_BadPlace, xe_BadPlace, xy_BadPlace, xk_BadPlace⟩, ⟨xg_BadPlace, xh_BadPlace, xe_BadPlace, xd_BadPlace⟩, xi_BadPlace, xt_BadPlace, PySem.W.mg_of X G aC_BadPlace, PySem.W.exm_ref xe_BadPlace xd_BadPlace xy_BadPlace xq_BadPlace⟩
    xb_BadPlace := b30
    xn_BadPlace_place := xn_BadPlace_place
    n_isinstance := PySem.W.mg_none_of X G z_isinstance
    n_bool := PySem.W.mg_none_of X G z_bool
    m_Beads_with_strength := ⟨a16, fn_Beads_with_strength, k16⟩
    m_Beads___mul__ := ⟨a18, fn_Beads___mul__, k18⟩
    sf_Beads := sf_Beads
    bm_Beads := ⟨⟨_, bmr_Beads, .inl rfl⟩, ⟨_, bmf_Beads⟩, ⟨_, bmo_Beads⟩, bms_Beads⟩
    is_Beads := ⟨⟨pg_Beads, hd_Beads, po_Beads, sa_Beads⟩, cc_Beads, sp_, tk_, mr_Beads⟩
    m_Beads_total := ⟨a20, fn_Beads_total, k20⟩
    m_Beads_greatest := ⟨a21, fn_Beads_greatest, k21⟩
    m_Beads___iter__ := ⟨a32, fn_Beads___iter__, k32⟩
    n_iter := PySem.W.mg_none_of X G z_iter
    x_WrongKind := ⟨⟨⟨_, _, _, _, bm_WrongKind, _, _, _, _, _, _, _, _, _, _, xL_WrongKind, rv_WrongKind⟩, xs_WrongKind, xe_WrongKind, xy_WrongKind, xk_WrongKind⟩, ⟨xg_WrongKind, xh_WrongKind, xe_WrongKind, xd_WrongKind⟩, xi_WrongKind, xt_WrongKind, PySem.W.mg_of X G aC_WrongKind, PySem.W.exm_ref xe_WrongKind xd_WrongKind xy_WrongKind xq_WrongKind⟩
    xb_WrongKind := b31
    xn_WrongKind_ring := xn_WrongKind_ring
    m_Beads___add__ := ⟨a24, fn_Beads___add__, k24⟩
    g_Beads := PySem.W.mg_of X G aC_Beads
  }
  exact ⟨_, fun s v => .of_eq rfl, fun base _ _ => law_end (ok_law T) law_true⟩
end DL
open PySem PySem.W PyProof.Rows
set_option maxHeartbeats 0 in
theorem PySem.Challenge.cw_retinue_k03_raised_and_joined_holds : PySem.Challenge.rw_retinue_k03_raised_and_joined.Holds := by
  w_on; o_law; k_head; (case hw => w_witness2)
  k_fill
  refine L2.walk_of (l := PySem.Challenge.rw_retinue_k03_raised_and_joined) (n := 63) (k := 9) (x := "script") (CX := fun w => L2N.CX PySem.Challenge.pw_retinue_k03_raised_and_joined w) (sp := fun w => DL.spLaw _) rfl (by decide) rfl ⟨rfl, by decide, by decide⟩ (fun w h Y => PySem.W.kIn_of Y) ?F (fun _ _ a ns hl _ hS => ⟨a, ns, rfl, hS, hl, fun _ => rfl⟩) (fun _ _ _ _ _ h => DL.cx_end h)
  case F =>
    intro w mg fa h KX G hmg
    refine' DL.all_mk KX G hmg ?aC_Beads ?aC_BadBeads ?aC_BadPlace ?aC_WrongKind ?a0 ?l0 ?co0 ?k0 ?a1 ?l1 ?co1 ?k1 ?a2 ?l2 ?co2 ?k2 ?a3 ?l3 ?co3 ?k3 ?a4 ?l4 ?co4 ?k4 ?lT4 ?w4_ring ?a5 ?l5 ?co5 ?k5 ?a6 ?l6 ?co6 ?k6 ?a7 ?l7 ?co7 ?k7 ?a8 ?l8 ?co8 ?k8 ?a9 ?l9 ?co9 ?k9 ?a10 ?l10 ?co10 ?k10 ?a11 ?l11 ?co11 ?k11 ?a12 ?l12 ?co12 ?k12 ?a13 ?l13 ?co13 ?k13 ?a14 ?l14 ?co14 ?k14 ?a15 ?l15 ?co15 ?k15 ?a16 ?l16 ?co16 ?k16 ?a17 ?l17 ?co17 ?k17 ?a18 ?l18 ?co18 ?k18 ?a19 ?l19 ?co19 ?k19 ?a20 ?l20 ?co20 ?k20 ?a21 ?l21 ?co21 ?k21 ?a22 ?l22 ?co22 ?k22 ?a23 ?l23 ?co23 ?k23 ?a24 ?l24 ?co24 ?k24 ?a25 ?l25 ?co25 ?k25 ?a26 ?l26 ?co26 ?k26 ?a27 ?l27 ?co27 ?k27 ?a28 ?l28 ?co28 ?k28 ?a29 ?l29 ?co29 ?k29 ?a30 ?l30 ?co30 ?k30 ?a31 ?l31 ?co31 ?k31 ?a32 ?l32 ?co32 ?k32 ?z_bool ?z_int ?z_isinstance ?z_iter ?z_len ?z_list ?z_max ?z_min ?z_range ?z_sum ?z_tuple ?sf_Beads ?bmr_Beads ?bmf_Beads ?bmo_Beads ?bms_Beads ?pg_Beads ?hd_Beads ?po_Beads ?sa_Beads ?mk_Beads ?kc_Beads ?fn_Beads ?cc_Beads ?mr_Beads ?sp_ ?tk_ ?na_Beads_strengths ?na_Beads_lengths ?na_Beads_ring ?xn_BadBeads_place ?fn_Beads___len__ ?xn_BadPlace_place ?fn_Beads_with_strength ?fn_Beads___mul__ ?fn_Beads_total ?fn_Beads_greatest ?fn_Beads___iter__ ?xn_WrongKind_ring ?fn_Beads___add__ ?xL_BadBeads ?rv_BadBeads ?xs_BadBeads ?xg_BadBeads ?xh_BadBeads ?xi_BadBeads ?xt_BadBeads ?xk_BadBeads ?xe_BadBeads ?xy_BadBeads ?xd_BadBeads ?xc_BadBeads ?xq_BadBeads ?xL_BadPlace ?rv_BadPlace ?xs_BadPlace ?xg_BadPlace ?xh_BadPlace ?xi_BadPlace ?xt_BadPlace ?xk_BadPlace ?xe_BadPlace ?xy_BadPlace ?xd_BadPlace ?xc_BadPlace ?xq_BadPlace ?xL_WrongKind ?rv_WrongKind ?xs_WrongKind ?xg_WrongKind ?xh_WrongKind ?xi_WrongKind ?xt_WrongKind ?xk_WrongKind ?xe_WrongKind ?xy_WrongKind ?xd_WrongKind ?xc_WrongKind ?xq_WrongKind
    (case aC_Beads => k_is)
    (case aC_BadBeads => k_is)
    (case aC_BadPlace => k_is)
    (case aC_WrongKind => k_is)
    (case a0 => k_is)
    (case l0 => k_is)
    (case co0 => k_is)
    (case k0 => k_is)
    (case a1 => k_is)
    (case l1 => k_is)
    (case co1 => k_is)
    (case k1 => k_is)
    (case a2 => k_is)
    (case l2 => k_is)
    (case co2 => k_is)
    (case k2 => k_is)
    (case a3 => k_is)
    (case l3 => k_is)
    (case co3 => k_is)
    (case k3 => k_is)
    (case a4 => k_is)
    (case l4 => k_is)
    (case co4 => k_is)
    (case k4 => k_is)
    (case lT4 => k_is)
    (case w4_ring => k_is)
    (case a5 => k_is)
    (case l5 => k_is)
    (case co5 => k_is)
    (case k5 => k_is)
    (case a6 => k_is)
    (case l6 => k_is)
    (case co6 => k_is)
    (case k6 => k_is)
    (case a7 => k_is)
    (case l7 => k_is)
    (case co7 => k_is)
    (case k7 => k_is)
    (case a8 => k_is)
    (case l8 => k_is)
    (case co8 => k_is)
    (case k8 => k_is)
    (case a9 => k_is)
    (case l9 => k_is)
    (case co9 => k_is)
    (case k9 => k_is)
    (case a10 => k_is)
    (case l10 => k_is)
    (case co10 => k_is)
    (case k10 => k_is)
    (case a11 => k_is)
    (case l11 => k_is)
    (case co11 => k_is)
    (case k11 => k_is)
    (case a12 => k_is)
    (case l12 => k_is)
    (case co12 => k_is)
    (case k12 => k_is)
    (case a13 => k_is)
    (case l13 => k_is)
    (case co13 => k_is)
    (case k13 => k_is)
    (case a14 => k_is)
    (case l14 => k_is)
    (case co14 => k_is)
    (case k14 => k_is)
    (case a15 => k_is)
    (case l15 => k_is)
    (case co15 => k_is)
    (case k15 => k_is)
    (case a16 => k_is)
    (case l16 => k_is)
    (case co16 => k_is)
    (case k16 => k_is)
    (case a17 => k_is)
    (case l17 => k_is)
    (case co17 => k_is)
    (case k17 => k_is)
    (case a18 => k_is)
    (case l18 => k_is)
    (case co18 => k_is)
    (case k18 => k_is)
    (case a19 => k_is)
    (case l19 => k_is)
    (case co19 => k_is)
    (case k19 => k_is)
    (case a20 => k_is)
    (case l20 => k_is)
    (case co20 => k_is)
    (case k20 => k_is)
    (case a21 => k_is)
    (case l21 => k_is)
    (case co21 => k_is)
    (case k21 => k_is)
    (case a22 => k_is)
    (case l22 => k_is)
    (case co22 => k_is)
    (case k22 => k_is)
    (case a23 => k_is)
    (case l23 => k_is)
    (case co23 => k_is)
    (case k23 => k_is)
    (case a24 => k_is)
    (case l24 => k_is)
    (case co24 => k_is)
    (case k24 => k_is)
    (case a25 => k_is)
    (case l25 => k_is)
    (case co25 => k_is)
    (case k25 => k_is)
    (case a26 => k_is)
    (case l26 => k_is)
    (case co26 => k_is)
    (case k26 => k_is)
    (case a27 => k_is)
    (case l27 => k_is)
    (case co27 => k_is)
    (case k27 => k_is)
    (case a28 => k_is)
    (case l28 => k_is)
    (case co28 => k_is)
    (case k28 => k_is)
    (case a29 => k_is)
    (case l29 => k_is)
    (case co29 => k_is)
    (case k29 => k_is)
    (case a30 => k_is)
    (case l30 => k_is)
    (case co30 => k_is)
    (case k30 => k_is)
    (case a31 => k_is)
    (case l31 => k_is)
    (case co31 => k_is)
    (case k31 => k_is)
    (case a32 => k_is)
    (case l32 => k_is)
    (case co32 => k_is)
    (case k32 => k_is)
    (case z_bool => k_is)
    (case z_int => k_is)
    (case z_isinstance => k_is)
    (case z_iter => k_is)
    (case z_len => k_is)
    (case z_list => k_is)
    (case z_max => k_is)
    (case z_min => k_is)
    (case z_range => k_is)
    (case z_sum => k_is)
    (case z_tuple => k_is)
    (case sf_Beads => first | k_is | rfl | decide +kernel)
    (case bmr_Beads => first | k_is | rfl)
    (case bmf_Beads => first | k_is | rfl)
    (case bmo_Beads => first | k_is | rfl)
    (case bms_Beads => first | rfl | k_is)
    (case pg_Beads => k_is)
    (case hd_Beads => k_is)
    (case po_Beads => k_is)
    (case sa_Beads => k_is)
    (case mk_Beads => k_is)
    (case kc_Beads => k_is)
    (case fn_Beads => k_is)
    (case cc_Beads => k_is)
    (case mr_Beads => k_is)
    (case sp_ => k_is)
    (case tk_ => k_is)
    (case na_Beads_strengths => k_is)
    (case na_Beads_lengths => k_is)
    (case na_Beads_ring => k_is)
    (case xn_BadBeads_place => k_is)
    (case fn_Beads___len__ => k_is)
    (case xn_BadPlace_place => k_is)
    (case fn_Beads_with_strength => k_is)
    (case fn_Beads___mul__ => k_is)
    (case fn_Beads_total => k_is)
    (case fn_Beads_greatest => k_is)
    (case fn_Beads___iter__ => k_is)
    (case xn_WrongKind_ring => k_is)
    (case fn_Beads___add__ => k_is)
    (case xL_BadBeads => k_is)
    (case rv_BadBeads => decide +kernel)
    (case xs_BadBeads => k_is)
    (case xg_BadBeads => k_is)
    (case xh_BadBeads => k_is)
    (case xi_BadBeads => k_is)
    (case xt_BadBeads => k_is)
    (case xk_BadBeads => k_is)
    (case xe_BadBeads => k_is)
    (case xy_BadBeads => k_is)
    (case xd_BadBeads => k_is)
    (case xc_BadBeads => k_is)
    (case xq_BadBeads => first | rfl | k_is)
    (case xL_BadPlace => k_is)
    (case rv_BadPlace => decide +kernel)
    (case xs_BadPlace => k_is)
    (case xg_BadPlace => k_is)
    (case xh_BadPlace => k_is)
    (case xi_BadPlace => k_is)
    (case xt_BadPlace => k_is)
    (case xk_BadPlace => k_is)
    (case xe_BadPlace => k_is)
    (case xy_BadPlace => k_is)
    (case xd_BadPlace => k_is)
    (case xc_BadPlace => k_is)
    (case xq_BadPlace => first | rfl | k_is)
    (case xL_WrongKind => k_is)
    (case rv_WrongKind => decide +kernel)
    (case xs_WrongKind => k_is)
    (case xg_WrongKind => k_is)
    (case xh_WrongKind => k_is)
    (case xi_WrongKind => k_is)
    (case xt_WrongKind => k_is)
    (case xk_WrongKind => k_is)
    (case xe_WrongKind => k_is)
    (case xy_WrongKind => k_is)
    (case xd_WrongKind => k_is)
    (case xc_WrongKind => k_is)
    (case xq_WrongKind => first | rfl | k_is)

