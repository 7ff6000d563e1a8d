import PyProof.Rows.All
import Wide.All
import OpenK.AllK
import Wide.FinOn
import HandS.ForMost
import HandS.ForExc
import HandS.HotCalls
import HandS.Wide
import HandS.CallSlots
import HandS.IsInst
import HandS.TupAny
import HandS.TupMul
import HandS.Conv
import HandS.Small
import HandS.ExcInit
import HandS.ExcField
import HandS.ExcInitHot
import HandS.MakeKw
import HandS.MakeKwOnly
import HandS.SortInts
import HandS.NoneIn
import KE.KTupSum
import KE.DataMinMax
import HandS.Strs
import HandS.SetFor
import PyProof.ListNew
import PyProof.Rows.SetFrom
import HandS.ExcIs
import KE.KExcIs
import HandS.Iter
import HandS.Rev
import HandS.Dict
import HandS.More
import KE.GoesEnum
import HandS.Set
import HandS.TupLe
import KE.DatumOrd
import PySem.Challenge.RW_retinue_k48_whole_last_waker_leads
set_option Elab.async false
set_option linter.all false
set_option maxRecDepth 100000
set_option maxHeartbeats 4000000
set_option autoImplicit false
namespace DL
open PySem PySem.Spec PyProof.Rows L2

/-! ### deep data, results -/
inductive D where
  | non | bl (b : Bool) | int (i : Int) | str (x : Str)
  | lst (xs : List D) | tup (xs : List D)
  | scr (xs : List D)
  | obj (C : Str) (fs : List (Str × D))

structure Ex where
  cls : Str
  args : List (Str × D)

inductive M (α : Type) where
  | ok (x : α) | er (x : Ex) | no

def mb {α β : Type} (m : M α) (f : α → M β) : M β := match m with
  | .ok x => f x
  | .er e => .er e
  | .no => .no
@[simp] theorem mb_ok {α β : Type} (x : α) (f : α → M β) : mb (.ok x) f = f x := rfl
@[simp] theorem mb_er {α β : Type} (x : Ex) (f : α → M β) : mb (.er x) f = .er x := rfl
@[simp] theorem mb_no {α β : Type} (f : α → M β) : mb .no f = .no := rfl
theorem mb_assoc {α β γ : Type} (m : M α) (f : α → M β) (g : β → M γ) : mb (mb m f) g = mb m fun x => mb (f x) g := by
  cases m <;> rfl
theorem mb_ite {α β : Type} (c : Prop) [Decidable c] (a b : M α) (f : α → M β) : mb (if c then a else b) f = if c then mb a f else mb b f := by
  split <;> rfl

/-! ### denotation -/
section
variable (K : PySem.W.Frag) (ca : Str → Addr)
mutual
inductive Den : Hp → V → D → Prop where
  | non {H : Hp} : Den H .non .non
  | bl {H : Hp} (b : Bool) : Den H (.bl b) (.bl b)
  | int {H : Hp} (i : Int) : Den H (.int i) (.int i)
  | str {H : Hp} (x : Str) : Den H (.str x) (.str x)
  | lst {H : Hp} {a : Addr} {vs : List V} {ds : List D} : H a = some (.lst vs) → DenL H vs ds → Den H (.ref a) (.lst ds)
  | scr {H : Hp} {a : Addr} {vs : List V} {ds : List D} : SqL K H a vs → DenL H vs ds → Den H (.ref a) (.scr ds)
  | tup {H : Hp} {a : Addr} {vs : List V} {ds : List D} : SqT K H a vs → DenL H vs ds → Den H (.ref a) (.tup ds)
  | obj {H : Hp} {a : Addr} {C : Str} {dx : Addr} {fs : List (Str × V)} {gs : List (Str × D)} : H a = some (.ins (ca C) dx fs) → DenF H fs gs → Den H (.ref a) (.obj C gs)
inductive DenL : Hp → List V → List D → Prop where
  | nil {H : Hp} : DenL H [] []
  | cons {H : Hp} {v : V} {d : D} {vs : List V} {ds : List D} : Den H v d → DenL H vs ds → DenL H (v :: vs) (d :: ds)
inductive DenF : Hp → List (Str × V) → List (Str × D) → Prop where
  | nil {H : Hp} : DenF H [] []
  | cons {H : Hp} {f : Str} {v : V} {d : D} {vs : List (Str × V)} {ds : List (Str × D)} : Den H v d → DenF H vs ds → DenF H ((f, v) :: vs) ((f, d) :: ds)
end
end

theorem same_seqT {K : PySem.W.Frag} {H H' : Hp} {a : Addr} {xs : List V} (e : Same H H') (h : SqT K H a xs) : SqT K H' a xs := by
  rcases h with (h | ⟨o, h⟩) | h
  · exact .inl (.inl (e _ _ h))
  · exact .inl (.inr ⟨o, e _ _ h⟩)
  · exact .inr h

section
variable {K : PySem.W.Frag} {ca : Str → Addr} {H H' : Hp}
mutual
theorem Den.mono (e : Same H H') : ∀ {v : V} {d : D}, Den K ca H v d → Den K ca H' v d
  | _, _, .non => .non
  | _, _, .bl b => .bl b
  | _, _, .int i => .int i
  | _, _, .str x => .str x
  | _, _, .lst h t => .lst (e _ _ h) (DenL.mono e t)
  | _, _, .scr h t => .scr (e.seq h) (DenL.mono e t)
  | _, _, .tup h t => .tup (same_seqT e h) (DenL.mono e t)
  | _, _, .obj h t => .obj (e _ _ h) (DenF.mono e t)
theorem DenL.mono (e : Same H H') : ∀ {v : List V} {d : List D}, DenL K ca H v d → DenL K ca H' v d
  | _, _, .nil => .nil
  | _, _, .cons h t => .cons (Den.mono e h) (DenL.mono e t)
theorem DenF.mono (e : Same H H') : ∀ {v : List (Str × V)} {d : List (Str × D)}, DenF K ca H v d → DenF K ca H' v d
  | _, _, .nil => .nil
  | _, _, .cons h t => .cons (Den.mono e h) (DenF.mono e t)
end
theorem DenL.length : ∀ {vs : List V} {ds : List D}, DenL K ca H vs ds → vs.length = ds.length
  | _, _, .nil => rfl
  | _, _, .cons _ t => congrArg (· + 1) (DenL.length t)
theorem DenL.append : ∀ {vs ws : List V} {ds es : List D}, DenL K ca H vs ds → DenL K ca H ws es → DenL K ca H (vs ++ ws) (ds ++ es)
  | _, _, _, _, .nil, s => s
  | _, _, _, _, .cons h t, s => .cons h (DenL.append t s)
theorem DenL.get : ∀ {vs : List V} {ds : List D} {i : Nat} {d : D}, DenL K ca H vs ds → ds[i]? = some d → ∃ v, vs[i]? = some v ∧ Den K ca H v d
  | _, _, _, _, .nil, e => by simp at e
  | _, _, 0, _, .cons h _, e => by simp at e; subst e; exact ⟨_, rfl, h⟩
  | _, _, i + 1, d, .cons _ t, e => by
    obtain ⟨v, h1, h2⟩ := DenL.get (i := i) (d := d) t (by simpa using e)
    exact ⟨v, by simpa using h1, h2⟩
theorem DenL.set {v : V} {d : D} (h : Den K ca H v d) : ∀ {vs : List V} {ds : List D} (i : Nat), DenL K ca H vs ds → DenL K ca H (vs.set i v) (ds.set i d)
  | _, _, _, .nil => .nil
  | _, _, 0, .cons _ t => .cons h t
  | _, _, i + 1, .cons q t => .cons q (DenL.set h i t)
theorem DenL.take : ∀ {vs : List V} {ds : List D} (n : Nat), DenL K ca H vs ds → DenL K ca H (vs.take n) (ds.take n)
  | _, _, 0, _ => .nil
  | _, _, _ + 1, .nil => .nil
  | _, _, n + 1, .cons h t => .cons h (DenL.take n t)
theorem DenL.drop : ∀ {vs : List V} {ds : List D} (n : Nat), DenL K ca H vs ds → DenL K ca H (vs.drop n) (ds.drop n)
  | _, _, 0, h => h
  | _, _, _ + 1, .nil => .nil
  | _, _, n + 1, .cons _ t => DenL.drop n t
theorem DenF.lookup {f : Str} {d : D} : ∀ {vs : List (Str × V)} {ds : List (Str × D)}, DenF K ca H vs ds → ds.lookup f = some d → ∃ v, vs.lookup f = some v ∧ Den K ca H v d
  | _, _, .nil, e => by cases e
  | _, _, .cons (f := g) h t, e => by
    simp only [List.lookup] at e ⊢
    cases q : (f == g) with
    | true => rw [q] at e; cases e; exact ⟨_, rfl, h⟩
    | false => rw [q] at e; exact DenF.lookup t e
theorem DenL.ints : ∀ {ns : List Int} {vs : List V}, DenL K ca H vs (ns.map D.int) → vs = ns.map V.int
  | [], _, h => by cases h; rfl
  | n :: ns, _, h => by
    cases h with
    | cons h t =>
      cases h
      rw [DenL.ints t]
      rfl
theorem DenL.of_ints : ∀ (ns : List Int), DenL K ca H (ns.map V.int) (ns.map D.int)
  | [] => .nil
  | n :: ns => .cons (.int n) (DenL.of_ints ns)
theorem DenL.bls : ∀ {ns : List Bool} {vs : List V}, DenL K ca H vs (ns.map D.bl) → vs = ns.map V.bl
  | [], _, h => by cases h; rfl
  | n :: ns, _, h => by
    cases h with
    | cons h t =>
      cases h
      rw [DenL.bls t]
      rfl
end

/-! ### growing heaps -/
structure Grow (G H G' H' : Hp) : Prop where
  g : Same G G'
  h : Same H H'
  gh : Same G' H'
  n : ∀ p, H p ≠ none → G' p = G p
theorem Grow.refl {G H : Hp} (e : Same G H) : Grow G H G H := ⟨Same.refl _, Same.refl _, e, fun _ _ => rfl⟩
theorem Grow.trans {G H G1 H1 G2 H2 : Hp} (a : Grow G H G1 H1) (b : Grow G1 H1 G2 H2) : Grow G H G2 H2 :=
  ⟨a.g.trans b.g, a.h.trans b.h, b.gh, fun p hp => (b.n p (fun z => by
    cases q : H p with
    | none => exact hp q
    | some o => rw [a.h p o q] at z; cases z)).trans (a.n p hp)⟩
theorem same_upd {H : Hp} {p : Addr} {o : HO} (h : H p = none) : Same H (upd H p o) := fun b x e => by
  rw [upd_ne (ne_of_none e h)]
  exact e
theorem Grow.alloc {G H : Hp} {p : Addr} {o : HO} (e : Same G H) (h : H p = none) : Grow G H (upd G p o) (upd H p o) := by
  have hg : G p = none := Same.free e h
  refine ⟨same_upd hg, same_upd h, fun b u q => ?_, fun b hb => ?_⟩
  · by_cases z : b = p
    · subst z; rw [upd_same] at q ⊢; exact q
    · rw [upd_ne z] at q ⊢; exact e _ _ q
  · exact upd_ne fun z => hb (z ▸ h)
theorem Grow.allocO {G H : Hp} {p : Addr} {o : HO} (e : Same G H) (h : H p = none) : Grow G H G (upd H p o) :=
  ⟨Same.refl _, same_upd h, e.trans (same_upd h), fun _ _ => rfl⟩

/-! ### slots -/
inductive Sl where
  | un | fr (d : D) | ow (ds : List D)
  | xc (a : Addr) (d : Option Addr) (fs : List (Str × D))
  | ln (ds : List D)
  | nw (a : Addr) (C : Str) (fs : List (Str × D))
  | dk (kvs : List (Int × V))
  | op (o : Option (List D)) (d : D)
section
variable (K : PySem.W.Frag) (ca : Str → Addr)
structure Bs where
  G0 : Hp
  H0 : Hp
def SlOk (B : Bs) (G H : Hp) (own : Addr → Option Nat) (σi : Option (Option V)) (i : Nat) : Sl → Prop
  | .un => True
  | .fr d => ∃ v, σi = some (some v) ∧ Den K ca G v d
  | .ow ds => ∃ p vs, σi = some (some (.ref p)) ∧ own p = some i ∧ H p = some (.lst vs) ∧ DenL K ca G vs ds
  | .nw p C fs => σi = some (some (.ref p)) ∧ own p = some i ∧ ∃ dx vs, H p = some (.ins (ca C) dx vs) ∧ DenF K ca G vs fs
  | .xc a d fs => σi = some (some (.ref a)) ∧ (fs = [] ∨ ∃ dd vs, d = some dd ∧ H dd = some (.xd vs) ∧ DenF K ca G vs fs)
  | .ln ds => ∃ p vs, σi = some (some (.ref p)) ∧ B.H0 p = some (.lst vs) ∧ DenL K ca G vs ds
  | .dk kvs => ∃ p, σi = some (some (.ref p)) ∧ own p = some i ∧ H p = some (.dK (kvs.map fun kv => (Sum.inl kv.1, kv.2)))
  | .op o d => ∃ t w u, σi = some (some (.ref t)) ∧ SqT K G t [w, u] ∧ Den K ca G u d ∧ ∀ ds, o = some ds → ∃ p vs, w = .ref p ∧ own p = some i ∧ H p = some (.lst vs) ∧ DenL K ca G vs ds
structure Ok (B : Bs) (G H : Hp) (own : Addr → Option Nat) (σ : L2.St) (S : List Sl) : Prop where
  ln : S.length ≤ σ.length
  gh : Same G H
  g0 : Same B.G0 G
  h0 : Same B.H0 H
  gn : ∀ p, B.H0 p ≠ none → G p = B.G0 p
  ow : ∀ p i, own p = some i → B.H0 p = none ∧ G p = none ∧ H p ≠ none
  sl : ∀ i s, S[i]? = some s → SlOk K ca B G H own σ[i]? i s
end
section
variable {K : PySem.W.Frag} {ca : Str → Addr} {B : Bs} {G H G' H' : Hp} {own : Addr → Option Nat} {σ : L2.St} {S : List Sl}
theorem Ok.grow (k : Ok K ca B G H own σ S) (g : Grow G H G' H') : Ok K ca B G' H' own σ S := by
  refine ⟨k.ln, g.gh, k.g0.trans g.g, k.h0.trans g.h, fun p hp => ?_, fun p i e => ?_, fun i s e => ?_⟩
  · have hH : H p ≠ none := fun z => by
      cases q : B.H0 p with
      | none => exact hp q
      | some o => rw [k.h0 p o q] at z; cases z
    exact (g.n p hH).trans (k.gn p hp)
  · obtain ⟨a, b, c⟩ := k.ow p i e
    refine ⟨a, (g.n p c).trans b, fun z => ?_⟩
    cases q : H p with
    | none => exact c q
    | some o => rw [g.h p o q] at z; cases z
  · have q := k.sl i s e
    cases s with
    | un => trivial
    | fr d => obtain ⟨v, h1, h2⟩ := q; exact ⟨v, h1, h2.mono g.g⟩
    | ln ds => obtain ⟨p, vs, h1, h2, h3⟩ := q; exact ⟨p, vs, h1, h2, h3.mono g.g⟩
    | ow ds => obtain ⟨p, vs, h1, h2, h3, h4⟩ := q; exact ⟨p, vs, h1, h2, g.h _ _ h3, h4.mono g.g⟩
    | nw p C fs => obtain ⟨h1, h2, dx, vs, h3, h4⟩ := q; exact ⟨h1, h2, dx, vs, g.h _ _ h3, h4.mono g.g⟩
    | dk kvs => obtain ⟨p, h1, h2, h3⟩ := q; exact ⟨p, h1, h2, g.h _ _ h3⟩
    | op o d =>
      obtain ⟨t, w, u, h1, h2, h3, h4⟩ := q
      refine ⟨t, w, u, h1, same_seqT g.g h2, h3.mono g.g, fun ds e => ?_⟩
      obtain ⟨p, vs, e1, e2, e3, e4⟩ := h4 ds e
      exact ⟨p, vs, e1, e2, g.h _ _ e3, e4.mono g.g⟩
    | xc a d fs =>
      obtain ⟨h1, h2⟩ := q
      rcases h2 with h2 | ⟨dd, vs, h2, h3, h4⟩
      · exact ⟨h1, .inl h2⟩
      · exact ⟨h1, .inr ⟨dd, vs, h2, g.h _ _ h3, h4.mono g.g⟩⟩
theorem Ok.base (k : Ok K ca B G H own σ S) : Grow B.G0 B.H0 G H := ⟨k.g0, k.h0, k.gh, k.gn⟩
/-- a slot is stored, its value frozen -/
theorem Ok.setF {i : Nat} {v : V} {d : D} (k : Ok K ca B G H own σ S) (h : Den K ca G v d) : Ok K ca B G H own (σ.set i (some v)) (S.set i (.fr d)) := by
  refine ⟨by simpa using k.ln, k.gh, k.g0, k.h0, k.gn, k.ow, fun j s e => ?_⟩
  by_cases hj : j = i
  · subst hj
    have hl : j < S.length := by
      by_cases hl : j < S.length
      · exact hl
      · rw [List.getElem?_eq_none (by simpa using hl)] at e; cases e
    rw [List.getElem?_set_self hl] at e
    cases e
    exact ⟨v, List.getElem?_set_self (Nat.lt_of_lt_of_le hl k.ln), h⟩
  · rw [List.getElem?_set_ne (Ne.symm hj)] at e
    rw [List.getElem?_set_ne (Ne.symm hj)]
    exact k.sl j s e
/-- a slot is stored, its value a new list of its own -/
theorem Ok.setO {i : Nat} {p : Addr} {vs : List V} {ds : List D} (k : Ok K ca B G H own σ S) (hp : H p = some (.lst vs)) (hn : B.H0 p = none) (hg : G p = none) (ho : own p = none) (h : DenL K ca G vs ds) :
    Ok K ca B G H (fun b => if b = p then some i else if own b = some i then none else own b) (σ.set i (some (.ref p))) (S.set i (.ow ds)) := by
  refine ⟨by simpa using k.ln, k.gh, k.g0, k.h0, k.gn, fun b j e => ?_, fun j s e => ?_⟩
  · by_cases hb : b = p
    · subst hb; exact ⟨hn, hg, by rw [hp]; exact fun z => by cases z⟩
    · simp only [if_neg hb] at e
      split at e
      · cases e
      · exact k.ow b j e
  · by_cases hj : j = i
    · subst hj
      have hl : j < S.length := by
        by_cases hl : j < S.length
        · exact hl
        · rw [List.getElem?_eq_none (by simpa using hl)] at e; cases e
      rw [List.getElem?_set_self hl] at e
      cases e
      exact ⟨p, vs, List.getElem?_set_self (Nat.lt_of_lt_of_le hl k.ln), by simp, hp, h⟩
    · rw [List.getElem?_set_ne (Ne.symm hj)] at e
      rw [List.getElem?_set_ne (Ne.symm hj)]
      have q := k.sl j s e
      cases s with
      | un => trivial
      | xc a d fs => exact q
      | fr d => exact q
      | ln ds => exact q
      | nw q1 C fs =>
        obtain ⟨h1, h2, h3⟩ := q
        refine ⟨h1, ?_, h3⟩
        have n1 : q1 ≠ p := fun z => by rw [z, ho] at h2; cases h2
        simp only [if_neg n1]
        rw [if_neg]
        · exact h2
        · rw [h2]; exact fun z => hj (Option.some.inj z)
      | ow es =>
        obtain ⟨q1, ws, h1, h2, h3, h4⟩ := q
        refine ⟨q1, ws, h1, ?_, h3, h4⟩
        have n1 : q1 ≠ p := fun z => by rw [z, ho] at h2; cases h2
        simp only [if_neg n1]
        rw [if_neg]
        · exact h2
        · rw [h2]; exact fun z => hj (Option.some.inj z)
      | dk kvs =>
        obtain ⟨q1, h1, h2, h3⟩ := q
        refine ⟨q1, h1, ?_, h3⟩
        have n1 : q1 ≠ p := fun z => by rw [z, ho] at h2; cases h2
        simp only [if_neg n1]
        rw [if_neg]
        · exact h2
        · rw [h2]; exact fun z => hj (Option.some.inj z)
      | op o d =>
        obtain ⟨t, w, u, h1, h2, h3, h4⟩ := q
        refine ⟨t, w, u, h1, h2, h3, fun ds e => ?_⟩
        obtain ⟨q1, ws, e1, e2, e3, e4⟩ := h4 ds e
        refine ⟨q1, ws, e1, ?_, e3, e4⟩
        have n1 : q1 ≠ p := fun z => by rw [z, ho] at e2; cases e2
        simp only [if_neg n1]
        rw [if_neg]
        · exact e2
        · rw [e2]; exact fun z => hj (Option.some.inj z)
/-- a slot is stored, its value a new dict of its own -/
theorem Ok.setK {i : Nat} {p : Addr} {kvs : List (Int × V)} (k : Ok K ca B G H own σ S) (hp : H p = some (.dK (kvs.map fun kv => (Sum.inl kv.1, kv.2)))) (hn : B.H0 p = none) (hg : G p = none) (ho : own p = none) :
    Ok K ca B G H (fun b => if b = p then some i else if own b = some i then none else own b) (σ.set i (some (.ref p))) (S.set i (.dk kvs)) := by
  refine ⟨by simpa using k.ln, k.gh, k.g0, k.h0, k.gn, fun b j e => ?_, fun j s e => ?_⟩
  · by_cases hb : b = p
    · subst hb; exact ⟨hn, hg, by rw [hp]; exact fun z => by cases z⟩
    · simp only [if_neg hb] at e
      split at e
      · cases e
      · exact k.ow b j e
  · by_cases hj : j = i
    · subst hj
      have hl : j < S.length := by
        by_cases hl : j < S.length
        · exact hl
        · rw [List.getElem?_eq_none (by simpa using hl)] at e; cases e
      rw [List.getElem?_set_self hl] at e
      cases e
      exact ⟨p, List.getElem?_set_self (Nat.lt_of_lt_of_le hl k.ln), by simp, hp⟩
    · rw [List.getElem?_set_ne (Ne.symm hj)] at e
      rw [List.getElem?_set_ne (Ne.symm hj)]
      have q := k.sl j s e
      cases s with
      | un => trivial
      | xc a d fs => exact q
      | fr d => exact q
      | ln ds => exact q
      | nw q1 C fs =>
        obtain ⟨h1, h2, h3⟩ := q
        refine ⟨h1, ?_, h3⟩
        have n1 : q1 ≠ p := fun z => by rw [z, ho] at h2; cases h2
        simp only [if_neg n1]
        rw [if_neg]
        · exact h2
        · rw [h2]; exact fun z => hj (Option.some.inj z)
      | ow es =>
        obtain ⟨q1, ws, h1, h2, h3, h4⟩ := q
        refine ⟨q1, ws, h1, ?_, h3, h4⟩
        have n1 : q1 ≠ p := fun z => by rw [z, ho] at h2; cases h2
        simp only [if_neg n1]
        rw [if_neg]
        · exact h2
        · rw [h2]; exact fun z => hj (Option.some.inj z)
      | dk kvs =>
        obtain ⟨q1, h1, h2, h3⟩ := q
        refine ⟨q1, h1, ?_, h3⟩
        have n1 : q1 ≠ p := fun z => by rw [z, ho] at h2; cases h2
        simp only [if_neg n1]
        rw [if_neg]
        · exact h2
        · rw [h2]; exact fun z => hj (Option.some.inj z)
      | op o d =>
        obtain ⟨t, w, u, h1, h2, h3, h4⟩ := q
        refine ⟨t, w, u, h1, h2, h3, fun ds e => ?_⟩
        obtain ⟨q1, ws, e1, e2, e3, e4⟩ := h4 ds e
        refine ⟨q1, ws, e1, ?_, e3, e4⟩
        have n1 : q1 ≠ p := fun z => by rw [z, ho] at e2; cases e2
        simp only [if_neg n1]
        rw [if_neg]
        · exact e2
        · rw [e2]; exact fun z => hj (Option.some.inj z)
/-- a list of a slot's own is changed -/
theorem Ok.mut {i : Nat} {p : Addr} {vs vs' : List V} {ds : List D} (k : Ok K ca B G H own σ S) (hl' : H p = some (.lst vs')) (ho : own p = some i) (h : DenL K ca G vs ds) (hs : σ[i]? = some (some (.ref p))) :
    Ok K ca B G (upd H p (.lst vs)) own σ (S.set i (.ow ds)) := by
  obtain ⟨a, b, c⟩ := k.ow p i ho
  have hx : ∀ (dd : Addr) (ws : List (Str × V)), H dd = some (.xd ws) → dd ≠ p := fun dd ws e z => by rw [z, hl'] at e; cases e
  refine ⟨by simpa using k.ln, fun b' o e => ?_, k.g0, fun b' o e => ?_, k.gn, fun b' j e => ?_, fun j s e => ?_⟩
  · have : b' ≠ p := fun z => by rw [z, b] at e; cases e
    rw [upd_ne this]; exact k.gh _ _ e
  · have : b' ≠ p := fun z => by rw [z, a] at e; cases e
    rw [upd_ne this]; exact k.h0 _ _ e
  · obtain ⟨a', b'', c'⟩ := k.ow b' j e
    refine ⟨a', b'', fun z => ?_⟩
    unfold upd at z; split at z
    · cases z
    · exact c' z
  · by_cases hj : j = i
    · subst hj
      have hl : j < S.length := by
        by_cases hl : j < S.length
        · exact hl
        · rw [List.getElem?_eq_none (by simpa using hl)] at e; cases e
      rw [List.getElem?_set_self hl] at e
      cases e
      exact ⟨p, vs, hs, ho, upd_same, h⟩
    · rw [List.getElem?_set_ne (Ne.symm hj)] at e
      have q := k.sl j s e
      cases s with
      | un => trivial
      | xc a d fs =>
        obtain ⟨h1, h2⟩ := q
        rcases h2 with h2 | ⟨dd, ws, h2, h3, h4⟩
        · exact ⟨h1, .inl h2⟩
        · refine ⟨h1, .inr ⟨dd, ws, h2, ?_, h4⟩⟩
          rw [upd_ne (hx dd ws h3)]; exact h3
      | fr d => exact q
      | ln ds => exact q
      | nw q1 C fs =>
        obtain ⟨h1, h2, dx, ws, h3, h4⟩ := q
        refine ⟨h1, h2, dx, ws, ?_, h4⟩
        have n1 : q1 ≠ p := fun z => by rw [z, ho] at h2; exact hj (Option.some.inj h2).symm
        rw [upd_ne n1]; exact h3
      | ow es =>
        obtain ⟨q1, ws, h1, h2, h3, h4⟩ := q
        refine ⟨q1, ws, h1, h2, ?_, h4⟩
        have n1 : q1 ≠ p := fun z => by rw [z, ho] at h2; exact hj (Option.some.inj h2).symm
        rw [upd_ne n1]; exact h3
      | dk kvs =>
        obtain ⟨q1, h1, h2, h3⟩ := q
        refine ⟨q1, h1, h2, ?_⟩
        have n1 : q1 ≠ p := fun z => by rw [z, ho] at h2; exact hj (Option.some.inj h2).symm
        rw [upd_ne n1]; exact h3
      | op o d =>
        obtain ⟨t, w, u, h1, h2, h3, h4⟩ := q
        refine ⟨t, w, u, h1, h2, h3, fun ds e => ?_⟩
        obtain ⟨q1, ws, e1, e2, e3, e4⟩ := h4 ds e
        refine ⟨q1, ws, e1, e2, ?_, e4⟩
        have n1 : q1 ≠ p := fun z => by rw [z, ho] at e2; exact hj (Option.some.inj e2).symm
        rw [upd_ne n1]; exact e3
/-- a dict of a slot's own is changed -/
theorem Ok.mutK {i : Nat} {p : Addr} {kvs : List (Int × V)} {vs' : List (Key × V)} (k : Ok K ca B G H own σ S) (hl' : H p = some (.dK vs')) (ho : own p = some i) (hs : σ[i]? = some (some (.ref p))) :
    Ok K ca B G (upd H p (.dK (kvs.map fun kv => (Sum.inl kv.1, kv.2)))) own σ (S.set i (.dk kvs)) := by
  obtain ⟨a, b, c⟩ := k.ow p i ho
  have hx : ∀ (dd : Addr) (ws : List (Str × V)), H dd = some (.xd ws) → dd ≠ p := fun dd ws e z => by rw [z, hl'] at e; cases e
  refine ⟨by simpa using k.ln, fun b' o e => ?_, k.g0, fun b' o e => ?_, k.gn, fun b' j e => ?_, fun j s e => ?_⟩
  · have : b' ≠ p := fun z => by rw [z, b] at e; cases e
    rw [upd_ne this]; exact k.gh _ _ e
  · have : b' ≠ p := fun z => by rw [z, a] at e; cases e
    rw [upd_ne this]; exact k.h0 _ _ e
  · obtain ⟨a', b'', c'⟩ := k.ow b' j e
    refine ⟨a', b'', fun z => ?_⟩
    unfold upd at z; split at z
    · cases z
    · exact c' z
  · by_cases hj : j = i
    · subst hj
      have hl : j < S.length := by
        by_cases hl : j < S.length
        · exact hl
        · rw [List.getElem?_eq_none (by simpa using hl)] at e; cases e
      rw [List.getElem?_set_self hl] at e
      cases e
      exact ⟨p, hs, ho, upd_same⟩
    · rw [List.getElem?_set_ne (Ne.symm hj)] at e
      have q := k.sl j s e
      cases s with
      | un => trivial
      | xc a d fs =>
        obtain ⟨h1, h2⟩ := q
        rcases h2 with h2 | ⟨dd, ws, h2, h3, h4⟩
        · exact ⟨h1, .inl h2⟩
        · refine ⟨h1, .inr ⟨dd, ws, h2, ?_, h4⟩⟩
          rw [upd_ne (hx dd ws h3)]; exact h3
      | fr d => exact q
      | ln ds => exact q
      | nw q1 C fs =>
        obtain ⟨h1, h2, dx, ws, h3, h4⟩ := q
        refine ⟨h1, h2, dx, ws, ?_, h4⟩
        have n1 : q1 ≠ p := fun z => by rw [z, ho] at h2; exact hj (Option.some.inj h2).symm
        rw [upd_ne n1]; exact h3
      | ow es =>
        obtain ⟨q1, ws, h1, h2, h3, h4⟩ := q
        refine ⟨q1, ws, h1, h2, ?_, h4⟩
        have n1 : q1 ≠ p := fun z => by rw [z, ho] at h2; exact hj (Option.some.inj h2).symm
        rw [upd_ne n1]; exact h3
      | dk kvs =>
        obtain ⟨q1, h1, h2, h3⟩ := q
        refine ⟨q1, h1, h2, ?_⟩
        have n1 : q1 ≠ p := fun z => by rw [z, ho] at h2; exact hj (Option.some.inj h2).symm
        rw [upd_ne n1]; exact h3
      | op o d =>
        obtain ⟨t, w, u, h1, h2, h3, h4⟩ := q
        refine ⟨t, w, u, h1, h2, h3, fun ds e => ?_⟩
        obtain ⟨q1, ws, e1, e2, e3, e4⟩ := h4 ds e
        refine ⟨q1, ws, e1, e2, ?_, e4⟩
        have n1 : q1 ≠ p := fun z => by rw [z, ho] at e2; exact hj (Option.some.inj e2).symm
        rw [upd_ne n1]; exact e3
/-- an object of a slot's own is changed -/
theorem Ok.mutN {i : Nat} {p dx dy : Addr} {Cn : Str} {vs vs' : List (Str × V)} {fs : List (Str × D)} (k : Ok K ca B G H own σ S) (hl' : H p = some (.ins (ca Cn) dy vs')) (ho : own p = some i) (h : DenF K ca G vs fs) (hs : σ[i]? = some (some (.ref p))) :
    Ok K ca B G (upd H p (.ins (ca Cn) dx vs)) own σ (S.set i (.nw p Cn fs)) := by
  obtain ⟨a, b, c⟩ := k.ow p i ho
  have hx : ∀ (dd : Addr) (ws : List (Str × V)), H dd = some (.xd ws) → dd ≠ p := fun dd ws e z => by rw [z, hl'] at e; cases e
  refine ⟨by simpa using k.ln, fun b' o e => ?_, k.g0, fun b' o e => ?_, k.gn, fun b' j e => ?_, fun j s e => ?_⟩
  · have : b' ≠ p := fun z => by rw [z, b] at e; cases e
    rw [upd_ne this]; exact k.gh _ _ e
  · have : b' ≠ p := fun z => by rw [z, a] at e; cases e
    rw [upd_ne this]; exact k.h0 _ _ e
  · obtain ⟨a', b'', c'⟩ := k.ow b' j e
    refine ⟨a', b'', fun z => ?_⟩
    unfold upd at z; split at z
    · cases z
    · exact c' z
  · by_cases hj : j = i
    · subst hj
      have hl : j < S.length := by
        by_cases hl : j < S.length
        · exact hl
        · rw [List.getElem?_eq_none (by simpa using hl)] at e; cases e
      rw [List.getElem?_set_self hl] at e
      cases e
      exact ⟨hs, ho, dx, vs, upd_same, h⟩
    · rw [List.getElem?_set_ne (Ne.symm hj)] at e
      have q := k.sl j s e
      have ne : ∀ {q1 : Addr}, own q1 = some j → q1 ≠ p := fun {q1} r z => by rw [z, ho] at r; exact hj (Option.some.inj r).symm
      cases s with
      | un => trivial
      | xc a d fs =>
        obtain ⟨h1, h2⟩ := q
        rcases h2 with h2 | ⟨dd, ws, h2, h3, h4⟩
        · exact ⟨h1, .inl h2⟩
        · refine ⟨h1, .inr ⟨dd, ws, h2, ?_, h4⟩⟩
          rw [upd_ne (hx dd ws h3)]; exact h3
      | fr d => exact q
      | ln ds => exact q
      | nw q1 C fs =>
        obtain ⟨h1, h2, dx, ws, h3, h4⟩ := q
        exact ⟨h1, h2, dx, ws, by rw [upd_ne (ne h2)]; exact h3, h4⟩
      | ow es =>
        obtain ⟨q1, ws, h1, h2, h3, h4⟩ := q
        exact ⟨q1, ws, h1, h2, by rw [upd_ne (ne h2)]; exact h3, h4⟩
      | dk kvs =>
        obtain ⟨q1, h1, h2, h3⟩ := q
        exact ⟨q1, h1, h2, by rw [upd_ne (ne h2)]; exact h3⟩
      | op o d =>
        obtain ⟨t, w, u, h1, h2, h3, h4⟩ := q
        refine ⟨t, w, u, h1, h2, h3, fun ds e => ?_⟩
        obtain ⟨q1, ws, e1, e2, e3, e4⟩ := h4 ds e
        exact ⟨q1, ws, e1, e2, by rw [upd_ne (ne e2)]; exact e3, e4⟩
/-- a list of a slot's own is frozen -/
theorem Ok.frz {i : Nat} {ds : List D} (k : Ok K ca B G H own σ S) (hs : S[i]? = some (.ow ds)) :
    ∃ G' own', Same G G' ∧ Ok K ca B G' H own' σ (S.set i (.fr (.lst ds))) := by
  obtain ⟨p, vs, h1, h2, h3, h4⟩ := k.sl i _ hs
  obtain ⟨a, b, c⟩ := k.ow p i h2
  have sg : Same G (upd G p (.lst vs)) := same_upd b
  refine ⟨upd G p (.lst vs), fun q => if q = p then none else own q, sg, ⟨by simpa using k.ln, fun q o e => ?_, k.g0.trans sg, k.h0, fun q hq => ?_, fun q j e => ?_, fun j s e => ?_⟩⟩
  · by_cases hb : q = p
    · subst hb; rw [upd_same] at e; cases e; exact h3
    · rw [upd_ne hb] at e; exact k.gh _ _ e
  · have : q ≠ p := fun z => hq (z ▸ a)
    rw [upd_ne this]; exact k.gn q hq
  · split at e
    · cases e
    · rename_i hb
      obtain ⟨x, y, z⟩ := k.ow q j e
      exact ⟨x, by rw [upd_ne hb]; exact y, z⟩
  · by_cases hj : j = i
    · subst hj
      have hl : j < S.length := (List.getElem?_eq_some_iff.mp hs).1
      rw [List.getElem?_set_self hl] at e
      cases e
      exact ⟨_, h1, .lst upd_same (h4.mono sg)⟩
    · rw [List.getElem?_set_ne (Ne.symm hj)] at e
      have q := k.sl j s e
      cases s with
      | un => trivial
      | fr d => obtain ⟨v, r1, r2⟩ := q; exact ⟨v, r1, r2.mono sg⟩
      | ln ds => obtain ⟨q1, ws, r1, r2, r3⟩ := q; exact ⟨q1, ws, r1, r2, r3.mono sg⟩
      | xc a d fs =>
        obtain ⟨r1, r2⟩ := q
        rcases r2 with r2 | ⟨dd, ws, r2, r3, r4⟩
        · exact ⟨r1, .inl r2⟩
        · exact ⟨r1, .inr ⟨dd, ws, r2, r3, r4.mono sg⟩⟩
      | nw q1 C fs =>
        obtain ⟨r1, r2, dx, ws, r3, r4⟩ := q
        refine ⟨r1, ?_, dx, ws, r3, r4.mono sg⟩
        have n1 : q1 ≠ p := fun z => by rw [z, h2] at r2; exact hj (Option.some.inj r2).symm
        show (if q1 = p then none else own q1) = some j
        rw [if_neg n1]; exact r2
      | ow es =>
        obtain ⟨q1, ws, r1, r2, r3, r4⟩ := q
        refine ⟨q1, ws, r1, ?_, r3, r4.mono sg⟩
        have n1 : q1 ≠ p := fun z => by rw [z, h2] at r2; exact hj (Option.some.inj r2).symm
        show (if q1 = p then none else own q1) = some j
        rw [if_neg n1]; exact r2
      | dk kvs =>
        obtain ⟨q1, r1, r2, r3⟩ := q
        refine ⟨q1, r1, ?_, r3⟩
        have n1 : q1 ≠ p := fun z => by rw [z, h2] at r2; exact hj (Option.some.inj r2).symm
        show (if q1 = p then none else own q1) = some j
        rw [if_neg n1]; exact r2
      | op o d =>
        obtain ⟨t, w, u, r1, r2, r3, r4⟩ := q
        refine ⟨t, w, u, r1, same_seqT sg r2, r3.mono sg, fun ds e => ?_⟩
        obtain ⟨q1, ws, e1, e2, e3, e4⟩ := r4 ds e
        refine ⟨q1, ws, e1, ?_, e3, e4.mono sg⟩
        have n1 : q1 ≠ p := fun z => by rw [z, h2] at e2; exact hj (Option.some.inj e2).symm
        show (if q1 = p then none else own q1) = some j
        rw [if_neg n1]; exact e2
/-- the list in a pair of a slot's own is frozen -/
theorem Ok.frzP {i : Nat} {ds : List D} {d : D} (k : Ok K ca B G H own σ S) (hs : S[i]? = some (.op (some ds) d)) :
    ∃ G' own', Same G G' ∧ Ok K ca B G' H own' σ (S.set i (.fr (.tup [.lst ds, d]))) := by
  obtain ⟨t0, w0, u0, h1, hT, hU, hL⟩ := k.sl i _ hs
  obtain ⟨p, vs, rfl, h2, h3, h4⟩ := hL ds rfl
  obtain ⟨a, b, c⟩ := k.ow p i h2
  have sg : Same G (upd G p (.lst vs)) := same_upd b
  refine ⟨upd G p (.lst vs), fun q => if q = p then none else own q, sg, ⟨by simpa using k.ln, fun q o e => ?_, k.g0.trans sg, k.h0, fun q hq => ?_, fun q j e => ?_, fun j s e => ?_⟩⟩
  · by_cases hb : q = p
    · subst hb; rw [upd_same] at e; cases e; exact h3
    · rw [upd_ne hb] at e; exact k.gh _ _ e
  · have : q ≠ p := fun z => hq (z ▸ a)
    rw [upd_ne this]; exact k.gn q hq
  · split at e
    · cases e
    · rename_i hb
      obtain ⟨x, y, z⟩ := k.ow q j e
      exact ⟨x, by rw [upd_ne hb]; exact y, z⟩
  · by_cases hj : j = i
    · subst hj
      have hl : j < S.length := (List.getElem?_eq_some_iff.mp hs).1
      rw [List.getElem?_set_self hl] at e
      cases e
      exact ⟨_, h1, .tup (same_seqT sg hT) (.cons (.lst upd_same (h4.mono sg)) (.cons (hU.mono sg) .nil))⟩
    · rw [List.getElem?_set_ne (Ne.symm hj)] at e
      have q := k.sl j s e
      cases s with
      | un => trivial
      | fr d => obtain ⟨v, r1, r2⟩ := q; exact ⟨v, r1, r2.mono sg⟩
      | ln ds => obtain ⟨q1, ws, r1, r2, r3⟩ := q; exact ⟨q1, ws, r1, r2, r3.mono sg⟩
      | xc a d fs =>
        obtain ⟨r1, r2⟩ := q
        rcases r2 with r2 | ⟨dd, ws, r2, r3, r4⟩
        · exact ⟨r1, .inl r2⟩
        · exact ⟨r1, .inr ⟨dd, ws, r2, r3, r4.mono sg⟩⟩
      | nw q1 C fs =>
        obtain ⟨r1, r2, dx, ws, r3, r4⟩ := q
        refine ⟨r1, ?_, dx, ws, r3, r4.mono sg⟩
        have n1 : q1 ≠ p := fun z => by rw [z, h2] at r2; exact hj (Option.some.inj r2).symm
        show (if q1 = p then none else own q1) = some j
        rw [if_neg n1]; exact r2
      | ow es =>
        obtain ⟨q1, ws, r1, r2, r3, r4⟩ := q
        refine ⟨q1, ws, r1, ?_, r3, r4.mono sg⟩
        have n1 : q1 ≠ p := fun z => by rw [z, h2] at r2; exact hj (Option.some.inj r2).symm
        show (if q1 = p then none else own q1) = some j
        rw [if_neg n1]; exact r2
      | dk kvs =>
        obtain ⟨q1, r1, r2, r3⟩ := q
        refine ⟨q1, r1, ?_, r3⟩
        have n1 : q1 ≠ p := fun z => by rw [z, h2] at r2; exact hj (Option.some.inj r2).symm
        show (if q1 = p then none else own q1) = some j
        rw [if_neg n1]; exact r2
      | op o d =>
        obtain ⟨t, w, u, r1, r2, r3, r4⟩ := q
        refine ⟨t, w, u, r1, same_seqT sg r2, r3.mono sg, fun ds e => ?_⟩
        obtain ⟨q1, ws, e1, e2, e3, e4⟩ := r4 ds e
        refine ⟨q1, ws, e1, ?_, e3, e4.mono sg⟩
        have n1 : q1 ≠ p := fun z => by rw [z, h2] at e2; exact hj (Option.some.inj e2).symm
        show (if q1 = p then none else own q1) = some j
        rw [if_neg n1]; exact e2
/-- a slot is stored, its value a pair with a new list of its own -/
theorem Ok.setP {i : Nat} {p t : Addr} {u : V} {d : D} {vs : List V} {ds : List D} (k : Ok K ca B G H own σ S) (ht : SqT K G t [.ref p, u]) (hu : Den K ca G u d) (hp : H p = some (.lst vs)) (hn : B.H0 p = none) (hg : G p = none) (ho : own p = none) (h : DenL K ca G vs ds) :
    Ok K ca B G H (fun b => if b = p then some i else if own b = some i then none else own b) (σ.set i (some (.ref t))) (S.set i (.op (some ds) d)) := by
  refine ⟨by simpa using k.ln, k.gh, k.g0, k.h0, k.gn, fun b j e => ?_, fun j s e => ?_⟩
  · by_cases hb : b = p
    · subst hb; exact ⟨hn, hg, by rw [hp]; exact fun z => by cases z⟩
    · simp only [if_neg hb] at e
      split at e
      · cases e
      · exact k.ow b j e
  · by_cases hj : j = i
    · subst hj
      have hl : j < S.length := by
        by_cases hl : j < S.length
        · exact hl
        · rw [List.getElem?_eq_none (by simpa using hl)] at e; cases e
      rw [List.getElem?_set_self hl] at e
      cases e
      exact ⟨t, .ref p, u, List.getElem?_set_self (Nat.lt_of_lt_of_le hl k.ln), ht, hu, fun ds' e => by cases e; exact ⟨p, vs, rfl, by simp, hp, h⟩⟩
    · rw [List.getElem?_set_ne (Ne.symm hj)] at e
      rw [List.getElem?_set_ne (Ne.symm hj)]
      have q := k.sl j s e
      cases s with
      | un => trivial
      | xc a d fs => exact q
      | fr d => exact q
      | ln ds => exact q
      | nw q1 C fs =>
        obtain ⟨h1, h2, h3⟩ := q
        refine ⟨h1, ?_, h3⟩
        have n1 : q1 ≠ p := fun z => by rw [z, ho] at h2; cases h2
        simp only [if_neg n1]
        rw [if_neg]
        · exact h2
        · rw [h2]; exact fun z => hj (Option.some.inj z)
      | ow es =>
        obtain ⟨q1, ws, h1, h2, h3, h4⟩ := q
        refine ⟨q1, ws, h1, ?_, h3, h4⟩
        have n1 : q1 ≠ p := fun z => by rw [z, ho] at h2; cases h2
        simp only [if_neg n1]
        rw [if_neg]
        · exact h2
        · rw [h2]; exact fun z => hj (Option.some.inj z)
      | dk kvs =>
        obtain ⟨q1, h1, h2, h3⟩ := q
        refine ⟨q1, h1, ?_, h3⟩
        have n1 : q1 ≠ p := fun z => by rw [z, ho] at h2; cases h2
        simp only [if_neg n1]
        rw [if_neg]
        · exact h2
        · rw [h2]; exact fun z => hj (Option.some.inj z)
      | op o d =>
        obtain ⟨t, w, u, h1, h2, h3, h4⟩ := q
        refine ⟨t, w, u, h1, h2, h3, fun ds e => ?_⟩
        obtain ⟨q1, ws, e1, e2, e3, e4⟩ := h4 ds e
        refine ⟨q1, ws, e1, ?_, e3, e4⟩
        have n1 : q1 ≠ p := fun z => by rw [z, ho] at e2; cases e2
        simp only [if_neg n1]
        rw [if_neg]
        · exact e2
        · rw [e2]; exact fun z => hj (Option.some.inj z)
/-- the list of a pair goes over to another slot -/
theorem Ok.takeP {i j : Nat} {ds : List D} {d : D} {p t : Addr} {u : V} (k : Ok K ca B G H own σ S) (hs : S[i]? = some (.op (some ds) d)) (hij : i ≠ j) (h1 : σ[i]? = some (some (.ref t))) (h2 : SqT K G t [.ref p, u]) (hu : Den K ca G u d) (ho : own p = some i) (vs : List V) (hp : H p = some (.lst vs)) (h : DenL K ca G vs ds) :
    Ok K ca B G H (fun b => if b = p then some j else if own b = some j then none else own b) (σ.set j (some (.ref p))) ((S.set i (.op none d)).set j (.ow ds)) := by
  obtain ⟨a0, b0, c0⟩ := k.ow p i ho
  refine ⟨by simpa using k.ln, k.gh, k.g0, k.h0, k.gn, fun b m e => ?_, fun m s e => ?_⟩
  · by_cases hb : b = p
    · subst hb; exact ⟨a0, b0, c0⟩
    · simp only [if_neg hb] at e
      split at e
      · cases e
      · exact k.ow b m e
  · by_cases hj : m = j
    · subst hj
      have hl : m < (S.set i (.op none d)).length := by
        by_cases hl : m < (S.set i (.op none d)).length
        · exact hl
        · rw [List.getElem?_eq_none (by simpa using hl)] at e; cases e
      rw [List.getElem?_set_self hl] at e
      cases e
      rw [List.length_set] at hl
      exact ⟨p, vs, List.getElem?_set_self (Nat.lt_of_lt_of_le hl k.ln), by simp, hp, h⟩
    · rw [List.getElem?_set_ne (Ne.symm hj)] at e
      rw [List.getElem?_set_ne (Ne.symm hj)]
      by_cases hi : m = i
      · subst hi
        have hl : m < S.length := (List.getElem?_eq_some_iff.mp hs).1
        rw [List.getElem?_set_self hl] at e
        cases e
        exact ⟨t, .ref p, u, h1, h2, hu, fun ds' z => by cases z⟩
      · rw [List.getElem?_set_ne (Ne.symm hi)] at e
        have q := k.sl m s e
        have mv : ∀ {q1 : Addr}, own q1 = some m → (if q1 = p then some j else if own q1 = some j then none else own q1) = some m := fun {q1} r => by
          have n1 : q1 ≠ p := fun z => by rw [z, ho] at r; exact hi (Option.some.inj r).symm
          rw [if_neg n1, if_neg]
          · exact r
          · rw [r]; exact fun z => hj (Option.some.inj z)
        cases s with
        | un => trivial
        | xc a d fs => exact q
        | fr d => exact q
        | ln ds => exact q
        | nw q1 C fs => obtain ⟨r1, r2, r3⟩ := q; exact ⟨r1, mv r2, r3⟩
        | ow es => obtain ⟨q1, ws, r1, r2, r3, r4⟩ := q; exact ⟨q1, ws, r1, mv r2, r3, r4⟩
        | dk kvs => obtain ⟨q1, r1, r2, r3⟩ := q; exact ⟨q1, r1, mv r2, r3⟩
        | op o d =>
          obtain ⟨t', w, u', r1, r2, r3, r4⟩ := q
          refine ⟨t', w, u', r1, r2, r3, fun ds' z => ?_⟩
          obtain ⟨q1, ws, e1, e2, e3, e4⟩ := r4 ds' z
          exact ⟨q1, ws, e1, mv e2, e3, e4⟩
/-- less is said of the slots -/
def Wk (S S' : List Sl) : Prop := S'.length ≤ S.length ∧ ∀ (i : Nat) (s : Sl), S'[i]? = some s → s = .un ∨ S[i]? = some s
theorem Wk.nil {S : List Sl} : Wk S [] := ⟨Nat.zero_le _, fun i s e => by simp at e⟩
theorem Wk.refl {S : List Sl} : Wk S S := ⟨Nat.le_refl _, fun i s e => .inr e⟩
theorem Ok.weak {S' : List Sl} (k : Ok K ca B G H own σ S) (h : Wk S S') : Ok K ca B G H own σ S' := by
  refine ⟨Nat.le_trans h.1 k.ln, k.gh, k.g0, k.h0, k.gn, k.ow, fun i s e => ?_⟩
  rcases h.2 i s e with rfl | h
  · trivial
  · exact k.sl i s h
end
end DL

namespace DL
open PySem PySem.Spec PyProof.Rows L2

/-! ### encoders -/
abbrev eI : Int → D := D.int
abbrev eB : Bool → D := D.bl
abbrev eS : Str → D := D.str
abbrev eU : Unit → D := fun _ => .non
abbrev eD : D → D := id
def eL {α : Type} (e : α → D) : List α → D := fun xs => .lst (xs.map e)
def eT {α : Type} (e : α → D) : List α → D := fun xs => .tup (xs.map e)
def eO {α : Type} (e : α → D) : Option α → D := fun o => match o with | none => .non | some x => e x
def eP {α β : Type} (e : α → D) (f : β → D) : α × β → D := fun p => .tup [e p.1, f p.2]

/-! ### an exception as a callee or a body lets it out -/
def Raised (K : PySem.W.Frag) (ca : Str → Addr) (x : Ex) (G : Hp) (cls : Value) (d : Option Addr) (H : Hp) : Prop :=
  cls = .ref (ca x.cls) ∧ (x.args = [] ∨ ∃ dd vs, d = some dd ∧ H dd = some (.xd vs) ∧ DenF K ca G vs x.args)
def ErK (K : PySem.W.Frag) (ca : Str → Addr) (x : Ex) (G H : Hp) (E : XK) : Prop :=
  ∀ cls d G' H', Grow G H G' H' → Raised K ca x G' cls d H' → E cls d H'
theorem ErK.grow {K : PySem.W.Frag} {ca : Str → Addr} {x : Ex} {G H G1 H1 : Hp} {E : XK} (e : ErK K ca x G H E) (g : Grow G H G1 H1) : ErK K ca x G1 H1 E :=
  fun cls d G' H' g' r => e cls d G' H' (g.trans g') r

/-- the parts of a judgement: the classes, the wish, the entry, the slots at a raise -/
structure Jx where
  ca : Str → Addr
  W : WX
  B : Bs
  Sx : List Sl
variable {X : Cx} {J : Jx}

section
variable (X : Cx) (J : Jx)
abbrev OkX (G H : Hp) (own : Addr → Option Nat) (σ : L2.St) (S : List Sl) : Prop := Ok X.K J.ca J.B G H own σ S
/-- what is wanted behind an expression whose result is n -/
def Fin {α : Type} (enc : α → D) (n : M α) (σ : L2.St) (G H : Hp) (Q : VK) : Prop := match n with
  | .ok z => ∀ v G' H', Grow G H G' H' → Den X.K J.ca G' v (enc z) → Q v H'
  | .er x => ErK X.K J.ca x G H fun cls d H' => J.W cls d σ H'
  | .no => False
/-- .. a new list of its own -/
def FinO {α : Type} (enc : α → D) (n : M (List α)) (σ : L2.St) (G H : Hp) (Q : VK) : Prop := match n with
  | .ok z => ∀ p vs G' H', Grow G H G' H' → H p = none → H' p = some (.lst vs) → G' p = none → DenL X.K J.ca G' vs (z.map enc) → Q (.ref p) H'
  | .er x => ErK X.K J.ca x G H fun cls d H' => J.W cls d σ H'
  | .no => False
/-- lent: frozen, or a list of a slot's own -/
def DenB (G H : Hp) (_own : Addr → Option Nat) (v : V) (d : D) : Prop := Den X.K J.ca G v d ∨ ∃ p vs ds, v = .ref p ∧ d = .lst ds ∧ H p = some (.lst vs) ∧ DenL X.K J.ca G vs ds ∧ G p = none
def FinB {α : Type} (enc : α → D) (n : M α) (σ : L2.St) (own : Addr → Option Nat) (G H : Hp) (Q : VK) : Prop := match n with
  | .ok z => ∀ v G' H', Grow G H G' H' → DenB X J G' H' own v (enc z) → Q v H'
  | .er x => ErK X.K J.ca x G H fun cls d H' => J.W cls d σ H'
  | .no => False
def FinT (n : M Bool) (σ : L2.St) (G H : Hp) (Q : Bool → Hp → Prop) : Prop := match n with
  | .ok b => ∀ G' H', Grow G H G' H' → Q b H'
  | .er x => ErK X.K J.ca x G H fun cls d H' => J.W cls d σ H'
  | .no => False
def tE {α : Type} (S : List Sl) (enc : α → D) (n : M α) : TE := fun σ H Q => ∃ G own, OkX X J G H own σ S ∧ Fin X J enc n σ G H Q
def tO {α : Type} (S : List Sl) (enc : α → D) (n : M (List α)) : TE := fun σ H Q => ∃ G own, OkX X J G H own σ S ∧ FinO X J enc n σ G H Q
def tEb {α : Type} (S : List Sl) (enc : α → D) (n : M α) : TE := fun σ H Q => ∃ G own, OkX X J G H own σ S ∧ FinB X J enc n σ own G H Q
def tT (S : List Sl) (n : M Bool) : TT := fun σ H Q => ∃ G own, OkX X J G H own σ S ∧ FinT X J n σ G H Q
/-- e's value is n's, frozen | a new list | lent; a test -/
def DE {α : Type} (S : List Sl) (e : Expr) (enc : α → D) (n : M α) : Prop := PE X e (tE X J S enc n)
def DO {α : Type} (S : List Sl) (e : Expr) (enc : α → D) (n : M (List α)) : Prop := PE X e (tO X J S enc n)
def DB {α : Type} (S : List Sl) (e : Expr) (enc : α → D) (n : M α) : Prop := PE X e (tEb X J S enc n)
def DT (S : List Sl) (e : Expr) (n : M Bool) : Prop := PT X e (tT X J S n)
end

theorem pe_imp {e : Expr} {t t' : TE} (h : PE X e t) (i : ∀ σ H Q, t' σ H Q → t σ H Q) : PE X e t' := ⟨fun pins s σ H Q I q => h.run pins s σ H Q I (i σ H Q q)⟩
theorem pt_imp {e : Expr} {t t' : TT} (h : PT X e t) (i : ∀ σ H Q, t' σ H Q → t σ H Q) : PT X e t' := ⟨fun pins s σ H Q I q => h.run pins s σ H Q I (i σ H Q q)⟩
theorem pss_imp {e : List Stmt} {t t' : TS} (h : PSs X e t) (i : ∀ D σ H, t' D σ H → t D σ H) : PSs X e t' := ⟨fun pins s σ H D I q => h.run pins s σ H D I (i D σ H q)⟩
theorem ps_imp {e : Stmt} {t t' : TS} (h : PS X e t) (i : ∀ D σ H, t' D σ H → t D σ H) : PS X e t' := ⟨fun pins s σ H D I q => h.run pins s σ H D I (i D σ H q)⟩
theorem pss_ex {β : Type} {e : List Stmt} {t : β → TS} (h : ∀ b, PSs X e (t b)) : PSs X e (fun D σ H => ∃ b, t b D σ H) := ⟨fun pins s σ H D I ⟨b, q⟩ => (h b).run pins s σ H D I q⟩

section
variable {α β γ : Type} {S : List Sl} {enc : α → D} {enb : β → D} {G H G' H' : Hp} {own : Addr → Option Nat} {σ : L2.St} {Q : VK}
theorem Fin.grow {n : M α} (f : Fin X J enc n σ G H Q) (g : Grow G H G' H') : Fin X J enc n σ G' H' Q := by
  cases n with
  | ok z => exact fun v G2 H2 g2 d => f v G2 H2 (g.trans g2) d
  | er x => exact ErK.grow f g
  | no => exact f
theorem none_back {p : Addr} (g : Grow G H G' H') (h : H' p = none) : H p = none := Same.free g.h h
theorem FinO.grow {n : M (List α)} (f : FinO X J enc n σ G H Q) (g : Grow G H G' H') : FinO X J enc n σ G' H' Q := by
  cases n with
  | ok z => exact fun p vs G2 H2 g2 hp hq hg d => f p vs G2 H2 (g.trans g2) (none_back g hp) hq hg d
  | er x => exact ErK.grow f g
  | no => exact f
theorem FinB.grow {n : M α} (f : FinB X J enc n σ own G H Q) (g : Grow G H G' H') : FinB X J enc n σ own G' H' Q := by
  cases n with
  | ok z => exact fun v G2 H2 g2 d => f v G2 H2 (g.trans g2) d
  | er x => exact ErK.grow f g
  | no => exact f
theorem FinT.grow {n : M Bool} {Q : Bool → Hp → Prop} (f : FinT X J n σ G H Q) (g : Grow G H G' H') : FinT X J n σ G' H' Q := by
  cases n with
  | ok z => exact fun G2 H2 g2 => f G2 H2 (g.trans g2)
  | er x => exact ErK.grow f g
  | no => exact f
theorem DenB.of {v : V} {d : D} (h : Den X.K J.ca G v d) : DenB X J G H own v d := .inl h
theorem DenB.grow {v : V} {d : D} (h : DenB X J G H own v d) (g : Grow G H G' H') : DenB X J G' H' own v d := by
  rcases h with h | ⟨p, vs, ds, h1, h2, h4, h5, h6⟩
  · exact .inl (h.mono g.g)
  · exact .inr ⟨p, vs, ds, h1, h2, g.h _ _ h4, h5.mono g.g, (g.n p (by rw [h4]; exact fun z => by cases z)).trans h6⟩
theorem DenB.list {v : V} {ds : List D} (e : Same G H) (h : DenB X J G H own v (.lst ds)) : ∃ a vs, v = .ref a ∧ H a = some (.lst vs) ∧ DenL X.K J.ca G vs ds := by
  rcases h with h | ⟨p, vs, es, h1, h2, h4, h5, h6⟩
  · cases h with
    | lst h t => exact ⟨_, _, rfl, e _ _ h, t⟩
  · cases h2; exact ⟨p, vs, h1, h4, h5⟩
theorem Den.tuple {v : V} {ds : List D} (e : Same G H) (h : Den X.K J.ca G v (.tup ds)) : ∃ a vs, v = .ref a ∧ SqT X.K H a vs ∧ DenL X.K J.ca G vs ds := by
  cases h with
  | tup h t => exact ⟨_, _, rfl, same_seqT e h, t⟩
/-- anything but a list is frozen -/
theorem DenB.den {v : V} {d : D} (h : DenB X J G H own v d) (n : ∀ ds, d ≠ .lst ds) : Den X.K J.ca G v d := by
  rcases h with h | ⟨p, vs, es, h1, h2, h4, h5, h6⟩
  · exact h
  · exact absurd h2 (n _)

/-! what comes behind a first part: K, its result's kind -/
/-- a first part m, then f: R is the wish behind all, kept by growth -/
def Wish {δ : Type} (R : M δ → Hp → Hp → Prop) (W : Value → Option Addr → Hp → Prop) (K : PySem.W.Frag) (ca : Str → Addr) : Prop :=
  (∀ n G H G' H', R n G H → Grow G H G' H' → R n G' H') ∧ (∀ x G H, R (.er x) G H → ErK K ca x G H W) ∧ (∀ G H, ¬ R .no G H)
theorem Fin.wish : Wish (fun n G H => Fin X J enc n σ G H Q) (fun cls d H' => J.W cls d σ H') X.K J.ca := ⟨fun _ _ _ _ _ f g => f.grow g, fun _ _ _ f => f, fun _ _ f => f⟩
theorem FinO.wish : Wish (fun n G H => FinO X J enc n σ G H Q) (fun cls d H' => J.W cls d σ H') X.K J.ca := ⟨fun _ _ _ _ _ f g => f.grow g, fun _ _ _ f => f, fun _ _ f => f⟩
theorem FinB.wish : Wish (fun n G H => FinB X J enc n σ own G H Q) (fun cls d H' => J.W cls d σ H') X.K J.ca := ⟨fun _ _ _ _ _ f g => f.grow g, fun _ _ _ f => f, fun _ _ f => f⟩
theorem FinT.wish {Q : Bool → Hp → Prop} : Wish (fun n G H => FinT X J n σ G H Q) (fun cls d H' => J.W cls d σ H') X.K J.ca := ⟨fun _ _ _ _ _ f g => f.grow g, fun _ _ _ f => f, fun _ _ f => f⟩

theorem E_bind {δ : Type} {R : M δ → Hp → Hp → Prop} {n : M α} {f : α → M δ} {P : VK} (w : Wish R (fun cls d H' => J.W cls d σ H') X.K J.ca) (ok : OkX X J G H own σ S) (r : R (mb n f) G H)
    (h : ∀ x v G1 H1, Grow G H G1 H1 → OkX X J G1 H1 own σ S → Den X.K J.ca G1 v (enc x) → R (f x) G1 H1 → P v H1) : tE X J S enc n σ H P := by
  refine ⟨G, own, ok, ?_⟩
  cases n with
  | ok x => exact fun v G1 H1 g d => h x v G1 H1 g (ok.grow g) d (w.1 _ _ _ _ _ r g)
  | er x => exact w.2.1 _ _ _ r
  | no => exact w.2.2 _ _ r
theorem B_bind {δ : Type} {R : M δ → Hp → Hp → Prop} {n : M α} {f : α → M δ} {P : VK} (w : Wish R (fun cls d H' => J.W cls d σ H') X.K J.ca) (ok : OkX X J G H own σ S) (r : R (mb n f) G H)
    (h : ∀ x v G1 H1, Grow G H G1 H1 → OkX X J G1 H1 own σ S → DenB X J G1 H1 own v (enc x) → R (f x) G1 H1 → P v H1) : tEb X J S enc n σ H P := by
  refine ⟨G, own, ok, ?_⟩
  cases n with
  | ok x => exact fun v G1 H1 g d => h x v G1 H1 g (ok.grow g) d (w.1 _ _ _ _ _ r g)
  | er x => exact w.2.1 _ _ _ r
  | no => exact w.2.2 _ _ r
theorem O_bind {δ : Type} {R : M δ → Hp → Hp → Prop} {n : M (List α)} {f : List α → M δ} {P : VK} (w : Wish R (fun cls d H' => J.W cls d σ H') X.K J.ca) (ok : OkX X J G H own σ S) (r : R (mb n f) G H)
    (h : ∀ x p vs G1 H1, Grow G H G1 H1 → OkX X J G1 H1 own σ S → H p = none → own p = none → H1 p = some (.lst vs) → G1 p = none → DenL X.K J.ca G1 vs (x.map enc) → R (f x) G1 H1 → P (.ref p) H1) : tO X J S enc n σ H P := by
  refine ⟨G, own, ok, ?_⟩
  cases n with
  | ok x => exact fun p vs G1 H1 g hp hq hg d => h x p vs G1 H1 g (ok.grow g) hp (by
      cases q : own p with
      | none => rfl
      | some i => exact absurd hp (ok.ow p i q).2.2) hq hg d (w.1 _ _ _ _ _ r g)
  | er x => exact w.2.1 _ _ _ r
  | no => exact w.2.2 _ _ r
theorem T_bind {δ : Type} {R : M δ → Hp → Hp → Prop} {n : M Bool} {f : Bool → M δ} {P : Bool → Hp → Prop} (w : Wish R (fun cls d H' => J.W cls d σ H') X.K J.ca) (ok : OkX X J G H own σ S) (r : R (mb n f) G H)
    (h : ∀ x G1 H1, Grow G H G1 H1 → OkX X J G1 H1 own σ S → R (f x) G1 H1 → P x H1) : tT X J S n σ H P := by
  refine ⟨G, own, ok, ?_⟩
  cases n with
  | ok x => exact fun G1 H1 g => h x G1 H1 g (ok.grow g) (w.1 _ _ _ _ _ r g)
  | er x => exact w.2.1 _ _ _ r
  | no => exact w.2.2 _ _ r
end

/-! ### conversions -/
section
variable {α β : Type} {S : List Sl} {e : Expr} {enc : α → D}
theorem b_e {n : M α} (h : DE X J S e enc n) : DB X J S e enc n := pe_imp h fun σ H Q ⟨G, own, ok, fin⟩ => by
  refine ⟨G, own, ok, ?_⟩
  cases n with
  | ok z => exact fun v G' H' g d => fin v G' H' g (.inl d)
  | er x => exact fin
  | no => exact fin
theorem e_o {n : M (List α)} (h : DO X J S e enc n) : DE X J S e (eL enc) n := pe_imp h fun σ H Q ⟨G, own, ok, fin⟩ => by
  refine ⟨G, own, ok, ?_⟩
  cases n with
  | ok z =>
    refine fun p vs G' H' g hp hq hg d => fin (.ref p) (upd G' p (.lst vs)) H' ⟨g.g.trans (same_upd hg), g.h, fun b o e => ?_, fun b hb => ?_⟩ (.lst upd_same (d.mono (same_upd hg)))
    · by_cases z : b = p
      · subst z; rw [upd_same] at e; cases e; exact hq
      · rw [upd_ne z] at e; exact g.gh _ _ e
    · have : b ≠ p := fun z => hb (z ▸ hp)
      rw [upd_ne this]; exact g.n b hb
  | er x => exact fin
  | no => exact fin
/-- anything but lists -/
theorem e_b {n : M α} (h : DB X J S e enc n) (hn : ∀ z ds, enc z ≠ .lst ds) : DE X J S e enc n := pe_imp h fun σ H Q ⟨G, own, ok, fin⟩ => by
  refine ⟨G, own, ok, ?_⟩
  cases n with
  | ok z => exact fun v G' H' g d => fin v G' H' g (d.den (hn z))
  | er x => exact fin
  | no => exact fin
theorem e_enc {enb : β → D} {n : M α} {n' : M β} (h : DE X J S e enc n) (he : (∀ z, n' = .ok z → ∃ y, n = .ok y ∧ enc y = enb z) ∧ (∀ x, n' = .er x → n = .er x)) : DE X J S e enb n' := pe_imp h fun σ H Q ⟨G, own, ok, fin⟩ => by
  refine ⟨G, own, ok, ?_⟩
  cases n' with
  | ok z =>
    obtain ⟨y, e1, e2⟩ := he.1 z rfl
    rw [e1]
    exact fun v G' H' g d => fin v G' H' g (e2 ▸ d)
  | er x => rw [he.2 x rfl]; exact fin
  | no => exact fin.elim
end

/-! ### names, constants -/
section
variable {α : Type} {S : List Sl} {enc : α → D} {pos : Pos}
theorem e_var (i : Nat) {x : Str} {z : α} (hs : S[i]? = some (.fr (enc z))) (hp : PE X (.Name x pos) (tVar i)) : DE X J S (.Name x pos) enc (.ok z) := pe_imp hp fun σ H Q ⟨G, own, ok, fin⟩ => by
  obtain ⟨v, h1, h2⟩ := ok.sl i _ hs
  exact ⟨v, h1, fin v G H (Grow.refl ok.gh) h2⟩
theorem b_var (i : Nat) {x : Str} {z : List α} (hs : S[i]? = some (.ow (z.map enc))) (hp : PE X (.Name x pos) (tVar i)) : DB X J S (.Name x pos) (eL enc) (.ok z) := pe_imp hp fun σ H Q ⟨G, own, ok, fin⟩ => by
  obtain ⟨p, vs, h1, h2, h3, h4⟩ := ok.sl i _ hs
  exact ⟨_, h1, fin _ G H (Grow.refl ok.gh) (.inr ⟨p, vs, _, rfl, rfl, h3, h4, (ok.ow p i h2).2.1⟩)⟩
theorem Ok.lentB {B : Bs} {G H : Hp} {own : Addr → Option Nat} {σ : L2.St} {p : Addr} {vs : List V} {ds : List D} (ok : Ok X.K J.ca B G H own σ S) (h : B.H0 p = some (.lst vs)) (d : DenL X.K J.ca G vs ds) : DenB X J G H own (.ref p) (.lst ds) := by
  have hp := ok.h0 _ _ h
  cases hg : G p with
  | none => exact .inr ⟨p, vs, ds, rfl, rfl, hp, d, hg⟩
  | some o =>
    have := ok.gh _ _ hg
    rw [hp] at this
    cases this
    exact .inl (.lst hg d)
/-- a lent list by its name -/
theorem l_var (i : Nat) {x : Str} {z : List α} (hs : S[i]? = some (.ln (z.map enc))) (hp : PE X (.Name x pos) (tVar i)) : DB X J S (.Name x pos) (eL enc) (.ok z) := pe_imp hp fun σ H Q ⟨G, own, ok, fin⟩ => by
  obtain ⟨p, vs, h1, h2, h3⟩ := ok.sl i _ hs
  exact ⟨_, h1, fin _ G H (Grow.refl ok.gh) (Ok.lentB (X := X) (J := J) (S := S) ok h2 h3)⟩
theorem e_int {k : Int} {j : Nat} (hp : PE X (.Constant (.int k) j pos) (tC (.int k)) := by exact pe_int) : DE X J S (.Constant (.int k) j pos) eI (.ok k) := pe_imp hp fun σ H Q ⟨G, own, ok, fin⟩ => fin _ G H (Grow.refl ok.gh) (.int k)
theorem e_non {j : Nat} (hp : PE X (.Constant .none j pos) (tC .non) := by exact pe_non) : DE X J S (.Constant .none j pos) eU (.ok ()) := pe_imp hp fun σ H Q ⟨G, own, ok, fin⟩ => fin _ G H (Grow.refl ok.gh) .non
end
end DL

namespace DL
open PySem PySem.Spec PyProof.Rows L2
variable {X : Cx} {J : Jx}

/-! ### outcomes of statements -/
inductive Out (β γ ρ : Type) where
  | nx (b : β) | rt (r : ρ) | bk (c : γ) | ct (c : γ)
inductive RV where
  | fr (d : D) | ow (ds : List D) | op (ds : List D) (d : D)
def sq {β β' γ ρ : Type} (m : M (Out β γ ρ)) (f : β → M (Out β' γ ρ)) : M (Out β' γ ρ) := match m with
  | .ok (.nx b) => f b
  | .ok (.rt r) => .ok (.rt r)
  | .ok (.bk c) => .ok (.bk c)
  | .ok (.ct c) => .ok (.ct c)
  | .er x => .er x
  | .no => .no
@[simp] theorem sq_nx {β β' γ ρ : Type} (b : β) (f : β → M (Out β' γ ρ)) : sq (.ok (.nx b)) f = f b := rfl
@[simp] theorem sq_rt {β β' γ ρ : Type} (r : ρ) (f : β → M (Out β' γ ρ)) : sq (.ok (.rt r)) f = .ok (.rt r) := rfl
@[simp] theorem sq_bk {β β' γ ρ : Type} (r : γ) (f : β → M (Out β' γ ρ)) : sq (.ok (.bk r)) f = .ok (.bk r) := rfl
@[simp] theorem sq_ct {β β' γ ρ : Type} (r : γ) (f : β → M (Out β' γ ρ)) : sq (.ok (.ct r)) f = .ok (.ct r) := rfl
@[simp] theorem sq_er {β β' γ ρ : Type} (x : Ex) (f : β → M (Out β' γ ρ)) : sq (.er x) f = .er x := rfl
@[simp] theorem sq_no {β β' γ ρ : Type} (f : β → M (Out β' γ ρ)) : sq .no f = .no := rfl
theorem sq_mb {α β β' γ ρ : Type} (m : M α) (g : α → M (Out β γ ρ)) (f : β → M (Out β' γ ρ)) : sq (mb m g) f = mb m fun x => sq (g x) f := by cases m <;> rfl
theorem sq_ite {β β' γ ρ : Type} (c : Prop) [Decidable c] (a b : M (Out β γ ρ)) (f : β → M (Out β' γ ρ)) : sq (if c then a else b) f = if c then sq a f else sq b f := by split <;> rfl

section
variable (X : Cx) (J : Jx)
def RtK (r : RV) (rt : VK) : Prop := match r with
  | .fr d => ∀ v G' H', Grow J.B.G0 J.B.H0 G' H' → Den X.K J.ca G' v d → rt v H'
  | .ow ds => ∀ p vs G' H', Grow J.B.G0 J.B.H0 G' H' → J.B.H0 p = none → H' p = some (.lst vs) → G' p = none → DenL X.K J.ca G' vs ds → rt (.ref p) H'
  | .op ds d => ∀ t p u vs G' H', Grow J.B.G0 J.B.H0 G' H' → J.B.H0 p = none → H' p = some (.lst vs) → G' p = none → SqT X.K G' t [.ref p, u] → DenL X.K J.ca G' vs ds → Den X.K J.ca G' u d → rt (.ref t) H'
def FinS {β γ ρ : Type} (N : β → List Sl) (L : γ → List Sl) (R : ρ → RV) (Dn : Ends) (G : Hp) (n : M (Out β γ ρ)) : Prop := match n with
  | .ok (.nx b) => ∀ σ' G' H' own', Same G G' → OkX X J G' H' own' σ' (N b) → Dn.nx σ' H'
  | .ok (.bk c) => ∀ σ' G' H' own', Same G G' → OkX X J G' H' own' σ' (L c) → Dn.bk σ' H'
  | .ok (.ct c) => ∀ σ' G' H' own', Same G G' → OkX X J G' H' own' σ' (L c) → Dn.ct σ' H'
  | .ok (.rt r) => RtK X J (R r) Dn.rt
  | .er x => ∀ cls d σ' G' H' own', Same G G' → OkX X J G' H' own' σ' J.Sx → Raised X.K J.ca x G' cls d H' → J.W cls d σ' H'
  | .no => False
def tS {β γ ρ : Type} (S : List Sl) (N : β → List Sl) (L : γ → List Sl) (R : ρ → RV) (n : M (Out β γ ρ)) : TS := fun Dn σ H => ∃ G own, OkX X J G H own σ S ∧ FinS X J N L R Dn G n
def DSs {β γ ρ : Type} (S : List Sl) (b : List Stmt) (N : β → List Sl) (L : γ → List Sl) (R : ρ → RV) (n : M (Out β γ ρ)) : Prop := PSs X b (tS X J S N L R n)
def DS {β γ ρ : Type} (S : List Sl) (b : Stmt) (N : β → List Sl) (L : γ → List Sl) (R : ρ → RV) (n : M (Out β γ ρ)) : Prop := PS X b (tS X J S N L R n)
end

section
variable {α β β' γ ρ : Type} {S S' : List Sl} {N : β → List Sl} {N' : β' → List Sl} {L : γ → List Sl} {R : ρ → RV} {Dn : Ends} {G H G' H' : Hp} {own : Addr → Option Nat} {σ : L2.St} {enc : α → D} {rest body : List Stmt} {st : Stmt} {e : Expr} {pos : Pos}
theorem FinS.mono {n : M (Out β γ ρ)} (f : FinS X J N L R Dn G n) (g : Same G G') : FinS X J N L R Dn G' n := by
  cases n with
  | ok o =>
    cases o with
    | nx b => exact fun σ' G2 H' own' sg ok' => f σ' G2 H' own' (g.trans sg) ok'
    | rt r => exact f
    | bk c => exact fun σ' G2 H' own' sg ok' => f σ' G2 H' own' (g.trans sg) ok'
    | ct c => exact fun σ' G2 H' own' sg ok' => f σ' G2 H' own' (g.trans sg) ok'
  | er x => exact fun cls d σ' G2 H' own' sg ok' ra => f cls d σ' G2 H' own' (g.trans sg) ok' ra
  | no => exact f
theorem FinS.wish (hw : Wk S J.Sx) : Wish (fun (n : M (Out β γ ρ)) G H => FinS X J N L R Dn G n ∧ OkX X J G H own σ S) (fun cls d H' => J.W cls d σ H') X.K J.ca :=
  ⟨fun _ _ _ _ _ f g => ⟨f.1.mono g.g, f.2.grow g⟩, fun x G H f cls d G' H' g r => f.1 cls d σ G' H' own g.g ((f.2.grow g).weak hw) r, fun _ _ f => f.1⟩
theorem OkX.rt (k : OkX X J G H own σ S) {v : V} {d : D} (h : Den X.K J.ca G v d) {rt : VK} (q : RtK X J (.fr d) rt) : rt v H := q v G H k.base h

theorem ss_cons {m : M (Out β γ ρ)} {f : β → M (Out β' γ ρ)} (h : DS X J S st N L R m) (hr : ∀ b, DSs X J (N b) rest N' L R (f b)) : DSs X J S (st :: rest) N' L R (sq m f) :=
  pss_imp (pss_cons h (pss_ex hr)) fun Dn σ H ⟨G, own, ok, fin⟩ => by
    refine ⟨G, own, ok, ?_⟩
    cases m with
    | ok o =>
      cases o with
      | nx b => exact fun σ' G' H' own' sg ok' => ⟨b, G', own', ok', FinS.mono fin sg⟩
      | rt r => exact fin
      | bk c => exact fin
      | ct c => exact fin
    | er x => exact fin
    | no => exact fin
theorem ss_nil {b : β} (hw : Wk S (N b)) : DSs X J S [] N L R (.ok (.nx b)) :=
  pss_imp pss_nil fun Dn σ H ⟨G, own, ok, fin⟩ => fin σ G H own (Same.refl _) (ok.weak hw)
theorem ss_un {m : M (Out β γ ρ)} (hw : Wk S S') (h : DSs X J S' body N L R m) : DSs X J S body N L R m :=
  pss_imp h fun Dn σ H ⟨G, own, ok, fin⟩ => ⟨G, own, ok.weak hw, fin⟩
theorem ss_frz {m : M (Out β γ ρ)} {ds : List D} (i : Nat) (hs : S[i]? = some (.ow ds)) (h : DSs X J (S.set i (.fr (.lst ds))) body N L R m) : DSs X J S body N L R m :=
  pss_imp h fun Dn σ H ⟨G, own, ok, fin⟩ => by
    obtain ⟨G', own', sg, ok'⟩ := ok.frz hs
    exact ⟨G', own', ok', fin.mono sg⟩
/-- x = e, the value frozen -/
theorem ss_asg {m : M α} {f : α → M (Out β γ ρ)} {i : Nat} {x : Str} {pos' : Pos} (hN : X.N.Nodup) (he : DE X J S e enc m) (hr : ∀ x, DSs X J (S.set i (.fr (enc x))) rest N L R (f x)) (hw : Wk S J.Sx) (hi : X.N[i]? = some x := by rfl) (hx : Loc X.env.scope x := by first | exact Or.inl rfl | exact Or.inr rfl)
    (hs : swapsWith e (some (.Name x pos')) pos.line X.env = pure false := by rfl) (hf : X.fn x = true ∨ X.env.scope.names.lookup x = some .local := by first | exact .inl rfl | exact .inr rfl) :
    DSs X J S (.Assign [.Name x pos'] e pos :: rest) N L R (mb m f) :=
  pss_imp (pss_cons (ps_set (i := i) hN hi hx he hs hf) (pss_ex hr)) fun Dn σ H ⟨G, own, ok, fin⟩ =>
    E_bind (FinS.wish hw) ok ⟨fin, ok⟩ fun x v G1 H1 g ok1 d r => ⟨x, G1, own, ok1.setF d, r.1⟩
/-- x = e, the value a new list of its own -/
theorem ss_asgO {m : M (List α)} {f : List α → M (Out β γ ρ)} {i : Nat} {x : Str} {pos' : Pos} (hN : X.N.Nodup) (he : DO X J S e enc m) (hr : ∀ x, DSs X J (S.set i (.ow (x.map enc))) rest N L R (f x)) (hw : Wk S J.Sx) (hi : X.N[i]? = some x := by rfl) (hx : Loc X.env.scope x := by first | exact Or.inl rfl | exact Or.inr rfl)
    (hs : swapsWith e (some (.Name x pos')) pos.line X.env = pure false := by rfl) (hf : X.fn x = true ∨ X.env.scope.names.lookup x = some .local := by first | exact .inl rfl | exact .inr rfl) :
    DSs X J S (.Assign [.Name x pos'] e pos :: rest) N L R (mb m f) :=
  pss_imp (pss_cons (ps_set (i := i) hN hi hx he hs hf) (pss_ex hr)) fun Dn σ H ⟨G, own, ok, fin⟩ =>
    O_bind (FinS.wish hw) ok ⟨fin, ok⟩ fun x p vs G1 H1 g ok1 hp ho hq hg d r => ⟨x, G1, _, ok1.setO hq (Same.free ok.h0 hp) hg ho d, r.1⟩
theorem ss_ret {m : M α} {g : α → ρ} (he : DE X J S e enc m) (hw : Wk S J.Sx) (hR : ∀ x, R (g x) = .fr (enc x)) : DSs X J S (.Return (some e) pos :: rest) N L R (mb m fun x => .ok (.rt (g x))) :=
  pss_imp (pss_cons (ps_ret he) pss_never) fun Dn σ H ⟨G, own, ok, fin⟩ =>
    E_bind (FinS.wish hw) ok ⟨fin, ok⟩ fun x v G1 H1 _ ok1 d r => by
      have q : RtK X J (R (g x)) Dn.rt := r.1
      rw [hR x] at q
      exact ok1.rt d q
theorem ss_retO {m : M (List α)} {g : List α → ρ} (he : DO X J S e enc m) (hw : Wk S J.Sx) (hR : ∀ x, R (g x) = .ow (x.map enc)) : DSs X J S (.Return (some e) pos :: rest) N L R (mb m fun x => .ok (.rt (g x))) :=
  pss_imp (pss_cons (ps_ret he) pss_never) fun Dn σ H ⟨G, own, ok, fin⟩ =>
    O_bind (FinS.wish hw) ok ⟨fin, ok⟩ fun x p vs G1 H1 _ ok1 hp ho hq hg d r => by
      have q : RtK X J (R (g x)) Dn.rt := r.1
      rw [hR x] at q
      exact q p vs G1 H1 ok1.base (Same.free ok.h0 hp) hq hg d
/-- return x, x a list of its own -/
theorem ss_retV {ds : List D} {x : Str} {p : Pos} {r : ρ} (i : Nat) (hs : S[i]? = some (.ow ds)) (hR : R r = .ow ds) (hp : PE X (.Name x p) (tVar i)) : DSs X J S (.Return (some (.Name x p)) pos :: rest) N L R (.ok (.rt r)) :=
  pss_imp (pss_cons (ps_ret hp) pss_never) fun Dn σ H ⟨G, own, ok, fin⟩ => by
    obtain ⟨p, vs, h1, h2, h3, h4⟩ := ok.sl i _ hs
    obtain ⟨a, b, c⟩ := ok.ow p i h2
    have q : RtK X J (R r) Dn.rt := fin
    rw [hR] at q
    exact ⟨_, h1, q p vs G H ok.base a h3 b h4⟩
theorem ss_retN {r : ρ} (hR : R r = .fr .non) : DSs X J S (.Return none pos :: rest) N L R (.ok (.rt r)) :=
  pss_imp (pss_cons ps_retN pss_never) fun Dn σ H ⟨G, own, ok, fin⟩ => by
    have q : RtK X J (R r) Dn.rt := fin
    rw [hR] at q
    exact q .non G H ok.base .non
theorem ss_pass {m : M (Out β γ ρ)} (h : DSs X J S rest N L R m) : DSs X J S (.Pass pos :: rest) N L R m := pss_cons ps_pass h
theorem ss_brk {c : γ} (hw : Wk S (L c)) : DSs X J S (.Break pos :: rest) N L R (.ok (.bk c)) :=
  pss_imp (pss_cons ps_break pss_never) fun Dn σ H ⟨G, own, ok, fin⟩ => fin σ G H own (Same.refl _) (ok.weak hw)
theorem ss_cont {c : γ} (hw : Wk S (L c)) : DSs X J S (.Continue pos :: rest) N L R (.ok (.ct c)) :=
  pss_imp (pss_cons ps_continue pss_never) fun Dn σ H ⟨G, own, ok, fin⟩ => fin σ G H own (Same.refl _) (ok.weak hw)
theorem ss_expr {m : M α} {f : M (Out β γ ρ)} (he : DE X J S e enc m) (hr : DSs X J S rest N L R f) (hw : Wk S J.Sx) (hs : swapsWith e none pos.line X.env = pure false := by rfl) : DSs X J S (.Expr e pos :: rest) N L R (mb m fun _ => f) :=
  pss_imp (pss_cons (ps_expr he hs) hr) fun Dn σ H ⟨G, own, ok, fin⟩ =>
    E_bind (FinS.wish hw) ok ⟨fin, ok⟩ fun x v G1 H1 _ ok1 d r => ⟨G1, own, ok1, r.1⟩
/-- if c: a else: b, then the rest -/
theorem ss_if {c : Expr} {a b : List Stmt} {mc : M Bool} {ma mb' : M (Out β γ ρ)} {f : β → M (Out β' γ ρ)} (hc : DT X J S c mc) (ha : DSs X J S a N L R ma) (hb : DSs X J S b N L R mb') (hr : ∀ b, DSs X J (N b) rest N' L R (f b)) (hw : Wk S J.Sx) :
    DSs X J S (.If c a b pos :: rest) N' L R (mb mc fun k => sq (if k = true then ma else mb') f) := by
  have h1 : DS X J S (.If c a b pos) N L R (mb mc fun k => if k = true then ma else mb') := ps_imp (ps_if hc ha hb) fun Dn σ H ⟨G, own, ok, fin⟩ =>
    T_bind (FinS.wish hw) ok ⟨fin, ok⟩ fun x G1 H1 g ok1 r => by
      cases x with
      | true => exact ⟨G1, own, ok1, r.1⟩
      | false => exact ⟨G1, own, ok1, r.1⟩
  rw [← sq_mb]
  exact ss_cons h1 hr
/-- its first branch never goes on -/
def NoNx {β γ ρ : Type} (m : M (Out β γ ρ)) : Prop := ∀ b, m ≠ .ok (.nx b)
theorem nn_rt {r : ρ} : NoNx (.ok (.rt r) : M (Out β γ ρ)) := fun b h => by cases h
theorem nn_bk {r : γ} : NoNx (.ok (.bk r) : M (Out β γ ρ)) := fun b h => by cases h
theorem nn_ct {r : γ} : NoNx (.ok (.ct r) : M (Out β γ ρ)) := fun b h => by cases h
theorem nn_er {x : Ex} : NoNx (.er x : M (Out β γ ρ)) := fun b h => by cases h
theorem nn_no : NoNx (.no : M (Out β γ ρ)) := fun b h => by cases h
theorem nn_mb {m : M α} {f : α → M (Out β γ ρ)} (h : ∀ x, NoNx (f x)) : NoNx (mb m f) := by
  cases m with
  | ok x => exact h x
  | er x => exact nn_er
  | no => exact nn_no
theorem nn_sq {m : M (Out β' γ ρ)} {f : β' → M (Out β γ ρ)} (h : ∀ x, NoNx (f x)) : NoNx (sq m f) := by
  cases m with
  | ok o =>
    cases o with
    | nx b => exact h b
    | rt r => exact nn_rt
    | bk r => exact nn_bk
    | ct r => exact nn_ct
  | er x => exact nn_er
  | no => exact nn_no
theorem nn_ite {c : Prop} [Decidable c] {a b : M (Out β γ ρ)} (ha : NoNx a) (hb : NoNx b) : NoNx (if c then a else b) := by split <;> assumption
theorem ss_ifX {c : Expr} {a : List Stmt} {mc : M Bool} {ma f : M (Out β γ ρ)} (hc : DT X J S c mc) (ha : DSs X J S a N L R ma) (hn : NoNx ma) (hr : DSs X J S rest N L R f) (hw : Wk S J.Sx) :
    DSs X J S (.If c a [] pos :: rest) N L R (mb mc fun k => if k = true then ma else f) :=
  pss_imp (pss_cons (ps_if hc ha pss_nil) hr) fun Dn σ H ⟨G, own, ok, fin⟩ =>
    T_bind (FinS.wish hw) ok ⟨fin, ok⟩ fun x G1 H1 g ok1 r => by
      cases x with
      | true =>
        refine ⟨G1, own, ok1, ?_⟩
        have r1 := r.1
        simp only [if_true] at r1
        cases hm : ma with
        | ok o =>
          rw [hm] at r1
          cases o with
          | nx b => exact absurd hm (hn b)
          | rt r => exact r1
          | bk c => exact r1
          | ct c => exact r1
        | er x => rw [hm] at r1; exact r1
        | no => rw [hm] at r1; exact r1
      | false => exact ⟨G1, own, ok1, r.1⟩
/-- .. and it is the last statement, both branches free -/
theorem ss_ifL {c : Expr} {a b : List Stmt} {mc : M Bool} {ma mb' : M (Out β γ ρ)} (hc : DT X J S c mc) (ha : DSs X J S a N L R ma) (hb : DSs X J S b N L R mb') (hw : Wk S J.Sx) :
    DSs X J S [.If c a b pos] N L R (mb mc fun k => if k = true then ma else mb') :=
  pss_imp (pss_one (ps_if hc ha hb)) fun Dn σ H ⟨G, own, ok, fin⟩ =>
    T_bind (FinS.wish hw) ok ⟨fin, ok⟩ fun x G1 H1 g ok1 r => by
      cases x with
      | true => exact ⟨G1, own, ok1, r.1⟩
      | false => exact ⟨G1, own, ok1, r.1⟩

/-! ### lists of a slot's own, changed -/
def line : Nat := 16000000
theorem line_le : line ≤ sizeLine := by rw [sizeLine_eq]; decide
def app {α : Type} (xs : List α) (x : α) : M (List α) := if xs.length < line then .ok (xs ++ [x]) else .no
theorem app_ok {α : Type} {xs : List α} {x : α} (h : xs.length < line) : app xs x = .ok (xs ++ [x]) := if_pos h
/-- x.append(e) -/
theorem ss_app {m : M α} {f : List α → M (Out β γ ρ)} {xs : List α} {x : Str} {p p2 pos2 : Pos} (i : Nat) (hs : S[i]? = some (.ow (xs.map enc))) (hp : PE X (.Name x p) (tVar i)) (he : DE X J S e enc m) (hr : ∀ ys, DSs X J (S.set i (.ow (ys.map enc))) rest N L R (f ys)) (hw : Wk S J.Sx)
    (hb : PE X (.Call (.Attribute (.Name x p) "append" p2) [e] [] pos2) (tBM X.K "list" rAppend (tVar i) (tCons (tE X J S enc m) tNil)))
    (hsw : swapsWith (.Call (.Attribute (.Name x p) "append" p2) [e] [] pos2) none pos.line X.env = pure false := by rfl) :
    DSs X J S (.Expr (.Call (.Attribute (.Name x p) "append" p2) [e] [] pos2) pos :: rest) N L R (mb m fun z => mb (app xs z) f) :=
  pss_imp (pss_cons (ps_expr hb hsw) (pss_ex hr)) fun Dn σ H ⟨G, own, ok, fin⟩ => by
    obtain ⟨q, vs, h1, h2, h3, h4⟩ := ok.sl i _ hs
    refine ⟨.ref q, h1, .inl ⟨rfl, _, SqL.of h3⟩, ?_⟩
    refine E_bind (FinS.wish hw) ok ⟨fin, ok⟩ fun z v G1 H1 g ok1 d r => ?_
    have hq := g.h _ _ h3
    have hl := h4.length
    rw [List.length_map] at hl
    have r1 := r.1
    by_cases hz : xs.length < line
    · rw [app_ok hz] at r1
      have dl : DenL X.K J.ca G1 (vs ++ [v]) ((xs ++ [z]).map enc) := by
        rw [List.map_append]
        exact (h4.mono g.g).append (.cons d .nil)
      exact ⟨q, vs, v, rfl, rfl, hq, by rw [hl]; exact Nat.lt_of_lt_of_le hz line_le, _, G1, own, ok1.mut hq h2 dl h1, r1⟩
    · unfold app at r1
      rw [if_neg hz] at r1
      exact r1.elim
end

/-! ### loops -/
section
variable {α β γ δ ρ : Type}
def forM (f : α → γ → M (Out γ γ ρ)) : List α → γ → M (Out γ δ ρ)
  | [], s => .ok (.nx s)
  | x :: xs, s => match f x s with
    | .ok (.nx s') => forM f xs s'
    | .ok (.ct s') => forM f xs s'
    | .ok (.bk s') => .ok (.nx s')
    | .ok (.rt r) => .ok (.rt r)
    | .er e => .er e
    | .no => .no
def whileM (c : γ → M Bool) (f : γ → M (Out γ γ ρ)) : Nat → γ → M (Out γ δ ρ)
  | 0, _ => .no
  | n + 1, s => mb (c s) fun k => if k = true then (match f s with
    | .ok (.nx s') => whileM c f n s'
    | .ok (.ct s') => whileM c f n s'
    | .ok (.bk s') => .ok (.nx s')
    | .ok (.rt r) => .ok (.rt r)
    | .er e => .er e
    | .no => .no) else .ok (.nx s)
@[simp] theorem forM_nil (f : α → γ → M (Out γ γ ρ)) (s : γ) : (forM f [] s : M (Out γ δ ρ)) = .ok (.nx s) := rfl
end

/-! ### functions -/
def fnO {β γ ρ : Type} (R : ρ → RV) (n : M (Out β γ ρ)) : M RV := match n with
  | .ok (.nx _) => .ok (.fr .non)
  | .ok (.rt r) => .ok (R r)
  | .ok _ => .no
  | .er x => .er x
  | .no => .no
def spR (K : PySem.W.Frag) (ca : Str → Addr) (G H : Hp) (r : M RV) (Q : VK) (E : XK) : Prop := match r with
  | .ok (.fr d) => ∀ v G' H', Grow G H G' H' → Den K ca G' v d → Q v H'
  | .ok (.ow ds) => ∀ p vs G' H', Grow G H G' H' → H p = none → H' p = some (.lst vs) → G' p = none → DenL K ca G' vs ds → Q (.ref p) H'
  | .ok (.op ds d) => ∀ t p u vs G' H', Grow G H G' H' → H p = none → H' p = some (.lst vs) → G' p = none → SqT K G' t [.ref p, u] → DenL K ca G' vs ds → Den K ca G' u d → Q (.ref t) H'
  | .er x => ErK K ca x G H E
  | .no => False
/-- arguments: frozen, or lists lent -/
inductive ArgL (K : PySem.W.Frag) (ca : Str → Addr) (G H : Hp) : List V → List Sl → Prop where
  | nil : ArgL K ca G H [] []
  | cons {v : V} {d : D} {vs : List V} {ss : List Sl} : Den K ca G v d → ArgL K ca G H vs ss → ArgL K ca G H (v :: vs) (.fr d :: ss)
  | consL {p : Addr} {ws : List V} {ds : List D} {vs : List V} {ss : List Sl} : H p = some (.lst ws) → DenL K ca G ws ds → ArgL K ca G H vs ss → ArgL K ca G H (.ref p :: vs) (.ln ds :: ss)
theorem ArgL.length {K : PySem.W.Frag} {ca : Str → Addr} {G H : Hp} : ∀ {vs : List V} {ss : List Sl}, ArgL K ca G H vs ss → vs.length = ss.length
  | _, _, .nil => rfl
  | _, _, .cons _ t => congrArg (· + 1) (ArgL.length t)
  | _, _, .consL _ _ t => congrArg (· + 1) (ArgL.length t)
theorem ArgL.mono {K : PySem.W.Frag} {ca : Str → Addr} {G H G' H' : Hp} (g : Same G G') (h : Same H H') : ∀ {vs : List V} {ss : List Sl}, ArgL K ca G H vs ss → ArgL K ca G' H' vs ss
  | _, _, .nil => .nil
  | _, _, .cons d t => .cons (d.mono g) (ArgL.mono g h t)
  | _, _, .consL p d t => .consL (h _ _ p) (d.mono g) (ArgL.mono g h t)
theorem ArgL.of {K : PySem.W.Frag} {ca : Str → Addr} {G H : Hp} : ∀ {vs : List V} {ds : List D}, DenL K ca G vs ds → ArgL K ca G H vs (ds.map Sl.fr)
  | _, _, .nil => .nil
  | _, _, .cons d t => .cons d (ArgL.of t)
/-- a def's promise: at the arguments encA a it answers code a -/
def spF (K : PySem.W.Frag) (ca : Str → Addr) {α : Type} (encA : α → List Sl) (code : α → M RV) : Sp := fun vs H Q E => ∃ a G, Same G H ∧ ArgL K ca G H vs (encA a) ∧ spR K ca G H (code a) Q E
/-- nothing is said of the slots at a raise -/
abbrev jx (ca : Str → Addr) (E : XK) (G H : Hp) : Jx := ⟨ca, fun cls d _ H' => E cls d H', ⟨G, H⟩, []⟩
structure CxD (X : Cx) (J : Jx) (k : Nat) : Prop where
  calm : X.calm = true
  tk : L2N.Takes X J.W
  po : PassesOwn (model X.prog X.w) X.A X.env X.xe
  room : Room k X.A
  nd : X.N.Nodup
theorem start_get {N : List Str} {vs : List V} {i : Nat} {v : V} (h : vs[i]? = some v) : (L2.start N vs)[i]? = some (some v) := by
  unfold L2.start
  have hi : i < vs.length := (List.getElem?_eq_some_iff.mp h).1
  rw [List.getElem?_append_left (by simpa using hi), List.getElem?_map, h]
  rfl
theorem ArgL.get {K : PySem.W.Frag} {ca : Str → Addr} {G H H0 : Hp} (hH : ∀ (p : Addr) (vs : List V), H p = some (.lst vs) → H0 p = some (.lst vs)) {own : Addr → Option Nat} : ∀ {vs : List V} {ss : List Sl} {i : Nat} {s : Sl}, ArgL K ca G H vs ss → ss[i]? = some s → ∃ v, vs[i]? = some v ∧ ∀ j H2, SlOk K ca ⟨G, H0⟩ G H2 own (some (some v)) j s
  | _, _, _, _, .nil, e => by simp at e
  | _, _, 0, _, .cons d _, e => by cases e; exact ⟨_, rfl, fun j H2 => ⟨_, rfl, d⟩⟩
  | _, _, 0, _, .consL p d _, e => by cases e; exact ⟨_, rfl, fun j H2 => ⟨_, _, rfl, hH _ _ p, d⟩⟩
  | _, _, i + 1, s, .cons _ t, e => ArgL.get hH (i := i) t (by simpa using e)
  | _, _, i + 1, s, .consL _ _ t, e => ArgL.get hH (i := i) t (by simpa using e)
theorem ok_start {K : PySem.W.Frag} {ca : Str → Addr} {G H : Hp} {N : List Str} {vs : List V} {ss : List Sl} {n : Nat} (e : Same G H) (h : ArgL K ca G H vs ss) (hn : ss.length + n ≤ N.length) :
    Ok K ca ⟨G, H⟩ G H (fun _ => none) (L2.start N vs) (ss ++ List.replicate n .un) := by
  have hl := h.length
  refine ⟨by simp [L2.start]; omega, e, Same.refl _, Same.refl _, fun _ _ => rfl, (fun p i z => nomatch z), fun i s q => ?_⟩
  by_cases hi : i < ss.length
  · rw [List.getElem?_append_left hi] at q
    obtain ⟨v, h1, h2⟩ := h.get (fun _ _ z => z) (own := fun _ => none) q
    rw [start_get h1]
    exact h2 i H
  · rw [List.getElem?_append_right (by omega), List.getElem?_replicate] at q
    split at q
    · cases q; trivial
    · cases q
section
variable {P : Program} {w : World} {K : PySem.W.Frag} {mg : Str → Option Value} {base : Heap}
theorem fn_ok {x qual : Str} {st : Stmt} {f : Addr} {fd : FuncData} {N ps : List Str} {k n : Nat} {ca : Str → Addr} {α β γ ρ : Type} {encA : α → List Sl} {R : ρ → RV} {Nx : α → β → List Sl} {L : α → γ → List Sl} {code : α → M (Out β γ ρ)}
    (F : Fun K x qual st f fd) (S : FnScope N ps (defScope st)) (hl : ∀ a, (encA a).length = ps.length) (hn : ps.length + n = N.length)
    (hb : ∀ (cdv : Value) (A : Around) (outer : List Env) (s : Shared) (G H : Hp) (E : XK) (a : α), CxD (cxOf (L2N.CX P w) P w K mg base N qual (defScope st) f cdv A outer s H E) (jx ca E G H) k →
      DSs (cxOf (L2N.CX P w) P w K mg base N qual (defScope st) f cdv A outer s H E) (jx ca E G H) (encA a ++ List.replicate n .un) (defBody st) (Nx a) (L a) R (code a)) :
    FnOk P w K mg base (L2N.CX P w) (k + 1) f fd ps (spF K ca encA fun a => fnO R (code a)) := by
  obtain ⟨oc, od, kV, doc, pm, an, cdv, ct, osl, rfl, lk, hcd⟩ := F.ex
  refine fn_of lk hcd S (fun vs H Q E ⟨a, G, e, d, r⟩ => by rw [d.length, hl a]) fun A outer s H vs Q E hr ⟨a, G, e, d, r⟩ => ?_
  have C : CxD (cxOf (L2N.CX P w) P w K mg base N qual (defScope st) f cdv A outer s H E) (jx ca E G H) k :=
    ⟨rfl, L2N.takes_of rfl rfl rfl rfl, passes_of rfl, hr, S.nd⟩
  refine ⟨_, hb cdv A outer s G H E a C, G, _, ok_start e d (by rw [hl a]; omega), ?_⟩
  have r' : spR K ca G H (fnO R (code a)) Q E := r
  cases hc : code a with
  | ok o =>
    rw [hc] at r'
    cases o with
    | nx b => exact fun σ' G' H' own' sg ok' => r' .non G' H' ok'.base .non
    | rt q =>
      have r2 : spR K ca G H (.ok (R q)) Q E := r'
      show RtK _ _ (R q) Q
      cases hR : R q with
      | fr d => rw [hR] at r2; exact r2
      | ow ds => rw [hR] at r2; exact fun p vs G' H' g h1 h2 h3 h4 => r2 p vs G' H' g h1 h2 h3 h4
      | op ds d => rw [hR] at r2; exact fun t p u vs G' H' g h1 h2 h3 h4 h5 h6 => r2 t p u vs G' H' g h1 h2 h3 h4 h5 h6
    | bk c => exact r'.elim
    | ct c => exact r'.elim
  | er x =>
    rw [hc] at r'
    exact fun cls d σ' G' H' own' sg ok' ra => r' cls d G' H' ok'.base ra
  | no => rw [hc] at r'; exact r'.elim
end
end DL

namespace DL
open PySem PySem.Spec PyProof.Rows L2
variable {X : Cx} {J : Jx}

/-! ### what is walked -/
section
variable (X : Cx) (J : Jx)
def ItOk (G0 : Hp) (It : It) (ds : List D) : Prop := ∀ (i : Nat) (H2 G2 : Hp), Same J.B.H0 H2 → Same G0 G2 → Same G2 H2 →
  (∀ d, ds[i]? = some d → It.go i H2 ∧ ∀ x H3, It.yld i H2 x H3 → ∃ G3, Grow G2 H2 G3 H3 ∧ Den X.K J.ca G3 x d) ∧ (ds.length ≤ i → It.stop i H2)
def FinI {α : Type} (enc : α → D) (n : M (List α)) (σ : L2.St) (G H : Hp) (R : It → Hp → Prop) : Prop := match n with
  | .ok z => ∀ I G' H', Grow G H G' H' → ItOk X J G' I (z.map enc) → R I H'
  | .er x => ErK X.K J.ca x G H fun cls d H' => J.W cls d σ H'
  | .no => False
def tI {α : Type} (S : List Sl) (enc : α → D) (n : M (List α)) : TI := fun σ H R => ∃ G own, OkX X J G H own σ S ∧ FinI X J enc n σ G H R
def DI {α : Type} (S : List Sl) (tg iter : Expr) (enc : α → D) (n : M (List α)) : Prop := PI X tg iter (tI X J S enc n)
/-- a target, by what it does to the slots -/
def DG {α : Type} (tg : Expr) (enc : α → D) (T : α → List Sl → List Sl) : Prop := ∃ g : TG, PG X tg g ∧ ∀ (x : α) (v : V) (G H : Hp) (own : Addr → Option Nat) (σ : L2.St) (S : List Sl) (Q : L2.St → Hp → Prop), OkX X J G H own σ S → Den X.K J.ca G v (enc x) →
  (∀ σ' own', OkX X J G H own' σ' (T x S) → Q σ' H) → g v σ H Q
end
theorem pi_imp {tg e : Expr} {t t' : TI} (h : PI X tg e t) (i : ∀ σ H Q, t' σ H Q → t σ H Q) : PI X tg e t' := ⟨fun pins s σ H Q I q => h.run pins s σ H Q I (i σ H Q q)⟩
section
variable {α β γ δ ρ : Type} {S S' : List Sl} {N : β → List Sl} {L : γ → List Sl} {Lo : δ → List Sl} {R : ρ → RV} {Dn : Ends} {G H G' H' : Hp} {own : Addr → Option Nat} {σ : L2.St} {enc : α → D} {rest body : List Stmt} {st : Stmt} {tg iter e c : Expr} {pos : Pos} {k : Nat}
theorem FinI.wish {R : It → Hp → Prop} : Wish (fun n G H => FinI X J enc n σ G H R) (fun cls d H' => J.W cls d σ H') X.K J.ca := ⟨fun n _ _ _ _ f g => by
  cases n with
  | ok z => exact fun I G2 H2 g2 d => f I G2 H2 (g.trans g2) d
  | er x => exact ErK.grow f g
  | no => exact f, fun _ _ _ f => f, fun _ _ f => f⟩
theorem Den.lst' {v : V} {ds : List D} (d : Den X.K J.ca G v (.lst ds)) : ∃ a vs, v = .ref a ∧ G a = some (.lst vs) ∧ DenL X.K J.ca G vs ds := by
  cases d with
  | lst h t => exact ⟨_, _, rfl, h, t⟩
theorem Den.tup' {v : V} {ds : List D} (d : Den X.K J.ca G v (.tup ds)) : ∃ a vs, v = .ref a ∧ SqT X.K G a vs ∧ DenL X.K J.ca G vs ds := by
  cases d with
  | tup h t => exact ⟨_, _, rfl, h, t⟩
theorem i_list {m : M (List α)} (h : DE X J S iter (eL enc) m) : DI X J S tg iter enc m := pi_imp (pi_list h) fun σ H Q ⟨G, own, ok, fin⟩ => by
  refine ⟨G, own, ok, ?_⟩
  cases m with
  | ok z =>
    intro v G1 H1 g d
    obtain ⟨a, vs, rfl, h1, h2⟩ := Den.lst' d
    refine ⟨a, rfl, ⟨vs, SqL.of (g.gh _ _ h1)⟩, fin _ G1 H1 g fun i H2 G2 s0 s1 s2 => ⟨fun d hd => ?_, fun hl => ?_⟩⟩
    · obtain ⟨x, e1, e2⟩ := h2.get hd
      have q : SqL X.K H2 a vs := SqL.of (s2 _ _ (s1 _ _ h1))
      refine ⟨⟨vs, x, q, e1⟩, fun y H3 ⟨e3, e4⟩ => ⟨G2, ?_, ?_⟩⟩
      · subst e3; exact Grow.refl s2
      · have := e4 vs q
        rw [e1] at this; cases this
        exact e2.mono s1
    · exact ⟨vs, SqL.of (s2 _ _ (s1 _ _ h1)), by rw [h2.length]; exact hl⟩
  | er x => exact fin
  | no => exact fin
theorem i_tup {m : M (List α)} (h : DE X J S iter (eT enc) m) : DI X J S tg iter enc m := pi_imp (pi_tup h) fun σ H Q ⟨G, own, ok, fin⟩ => by
  refine ⟨G, own, ok, ?_⟩
  cases m with
  | ok z =>
    intro v G1 H1 g d
    obtain ⟨a, vs, rfl, h1, h2⟩ := Den.tup' d
    refine ⟨a, rfl, ⟨vs, same_seqT g.gh h1⟩, fin _ G1 H1 g fun i H2 G2 s0 s1 s2 => ⟨fun d hd => ?_, fun hl => ?_⟩⟩
    · obtain ⟨x, e1, e2⟩ := h2.get hd
      have q := same_seqT s2 (same_seqT s1 h1)
      refine ⟨⟨vs, x, q, e1⟩, fun y H3 ⟨e3, e4⟩ => ⟨G2, ?_, ?_⟩⟩
      · subst e3; exact Grow.refl s2
      · have := e4 vs q
        rw [e1] at this; cases this
        exact e2.mono s1
    · exact ⟨vs, same_seqT s2 (same_seqT s1 h1), by rw [h2.length]; exact hl⟩
  | er x => exact fin
  | no => exact fin
/-- a lent list by its name -/
theorem i_ln (i : Nat) {x : Str} {z : List α} (hs : S[i]? = some (.ln (z.map enc))) (hp : PE X (.Name x pos) (tVar i)) : DI X J S tg (.Name x pos) enc (.ok z) := pi_imp (pi_list hp) fun σ H Q ⟨G, own, ok, fin⟩ => by
  obtain ⟨p, vs, h1, h2, h3⟩ := ok.sl i _ hs
  have hp' := ok.h0 _ _ h2
  refine ⟨_, h1, p, rfl, ⟨vs, SqL.of hp'⟩, fin _ G H (Grow.refl ok.gh) fun i H2 G2 s0 s1 s2 => ⟨fun d hd => ?_, fun hl => ?_⟩⟩
  · obtain ⟨x, e1, e2⟩ := h3.get hd
    have q : SqL X.K H2 p vs := SqL.of (s0 _ _ h2)
    refine ⟨⟨vs, x, q, e1⟩, fun y H3 ⟨e3, e4⟩ => ⟨G2, ?_, ?_⟩⟩
    · subst e3; exact Grow.refl s2
    · have := e4 vs q
      rw [e1] at this; cases this
      exact e2.mono s1
  · exact ⟨vs, SqL.of (s0 _ _ h2), by rw [h3.length]; exact hl⟩
/-- the ints of a range -/
def rng (lo hi : Int) : List Int := (List.range (hi - lo).toNat).map fun (i : Nat) => lo + (i : Int)
def okI (i : Int) : Bool := decide (-(2 ^ 62) ≤ i ∧ i < 2 ^ 62)
def rngM (lo hi : Int) : M (List Int) := if okI lo && okI hi then .ok (rng lo hi) else .no
theorem rng_len (lo hi : Int) : (rng lo hi).length = (hi - lo).toNat := by unfold rng; rw [List.length_map, List.length_range]
theorem rng_get {lo hi : Int} {i : Nat} (h : i < (hi - lo).toNat) : (rng lo hi)[i]? = some (lo + i) := by
  unfold rng; rw [List.getElem?_map, List.getElem?_range h]; rfl
theorem itr_ok {lo hi : Int} : ItOk X J G (Itr lo (hi - lo).toNat) ((rng lo hi).map eI) := fun i H2 G2 s0 s1 s2 => by
  refine ⟨fun d hd => ?_, fun hl => ?_⟩
  · have hi' : i < (hi - lo).toNat := by
      have := (List.getElem?_eq_some_iff.mp hd).1
      rwa [List.length_map, rng_len] at this
    rw [List.getElem?_map, rng_get hi'] at hd
    cases hd
    exact ⟨hi', fun x H3 ⟨e, y⟩ => ⟨G2, by subst e; exact Grow.refl s2, by subst y; exact .int _⟩⟩
  · rw [List.length_map, rng_len] at hl
    exact hl
theorem i_range1 {a : Expr} {p : Pos} {m : M Int} (hg : Gl X "range") (hm : X.mg "range" = none) (ha : PA X [a] (tCons (tE X J S eI m) tNil)) (hs : starEach [a] X.env = [(false, eval a X.env)] := by rfl) : DI X J S tg (.Call (.Name "range" p) [a] [] pos) eI (mb m fun n => rngM 0 n) :=
  pi_imp (pi_range1 hg hm ha hs) fun σ H Q ⟨G, own, ok, fin⟩ =>
    E_bind FinI.wish ok fin fun n v G1 H1 g ok1 d r => by
      cases d
      unfold rngM at r
      split at r
      · rename_i h
        simp only [okI, Bool.and_eq_true, decide_eq_true_eq] at h
        refine ⟨n, rfl, h.2.1, h.2.2, ?_⟩
        have q := r (Itr 0 (n - 0).toNat) G1 H1 (Grow.refl ok1.gh) itr_ok
        rwa [show n - 0 = n by omega] at q
      · exact r.elim
theorem i_range2 {a b : Expr} {p : Pos} {ma mb' : M Int} (hg : Gl X "range") (hm : X.mg "range" = none) (ha : PA X [a, b] (tCons (tE X J S eI ma) (tCons (tE X J S eI mb') tNil))) (hs : starEach [a, b] X.env = [(false, eval a X.env), (false, eval b X.env)] := by rfl) (hs2 : starEach [b] X.env = [(false, eval b X.env)] := by rfl) :
    DI X J S tg (.Call (.Name "range" p) [a, b] [] pos) eI (mb ma fun i => mb mb' fun j => rngM i j) :=
  pi_imp (pi_range2 hg hm ha hs hs2) fun σ H Q ⟨G, own, ok, fin⟩ =>
    E_bind FinI.wish ok fin fun i v G1 H1 g ok1 d r => E_bind FinI.wish ok1 r fun j u G2 H2 g2 ok2 d2 r => by
      cases d
      cases d2
      unfold rngM at r
      split at r
      · rename_i h
        simp only [okI, Bool.and_eq_true, decide_eq_true_eq] at h
        exact ⟨i, j, rfl, ⟨h.1.1, h.1.2, h.2.1, h.2.2⟩, r (Itr i (j - i).toNat) G2 H2 (Grow.refl ok2.gh) itr_ok⟩
      · exact r.elim
theorem g_name {i : Nat} {x : Str} (hN : X.N.Nodup) (hi : X.N[i]? = some x := by rfl) (hx : Loc X.env.scope x := by first | exact Or.inl rfl | exact Or.inr rfl) (hf : X.fn x = true ∨ X.env.scope.names.lookup x = some .local := by first | exact .inl rfl | exact .inr rfl) :
    DG X J (.Name x pos) enc (fun z S => S.set i (.fr (enc z))) := ⟨_, pg_name hN hi hx hf, fun _ _ G H own σ S Q ok d q => q _ own (ok.setF d)⟩

theorem ss_for {m : M (List α)} {f : α → γ → M (Out γ γ ρ)} {T : α → List Sl → List Sl} {g : γ → M (Out β δ ρ)} (s0 : γ) (C : CxD X J k) (hi : DI X J S tg iter enc m) (hg : DG X J tg enc T) (hw0 : Wk S (L s0)) (hw : Wk S J.Sx)
    (hb : ∀ x s, DSs X J (T x (L s)) body L L R (f x s)) (hr : ∀ s, DSs X J (L s) rest N Lo R (g s)) (hs : ∀ x, foldedSetIterable iter X.env x = pure x := by intro _; rfl) :
    DSs X J S (.For tg iter body [] pos :: rest) N Lo R (mb m fun zs => sq (forM f zs s0) g) := by
  rw [← sq_mb]
  obtain ⟨gt, hg, hgt⟩ := hg
  refine ss_cons (N := L) (ps_imp (ps_for C.po C.calm hi hg (pss_ex fun x => pss_ex fun s => hb x s) hs) fun Dn σ H ⟨G, own, ok, fin⟩ => ?_) hr
  refine ⟨G, own, ok, ?_⟩
  have W := FinS.wish (X := X) (J := J) (N := L) (L := Lo) (R := R) (Dn := Dn) (own := own) (σ := σ) hw
  cases m with
  | er x => exact W.2.1 x G H ⟨fin, ok⟩
  | no => exact fin.elim
  | ok zs =>
    intro I G1 H1 gr io
    have fin : FinS X J L Lo R Dn G (forM f zs s0) := fin
    refine ⟨fun i m σ2 H2 => m = zs.length - i ∧ i ≤ zs.length ∧ ∃ s G2 own2, OkX X J G2 H2 own2 σ2 (L s) ∧ Same G1 G2 ∧ FinS X J L Lo R Dn G2 (forM f (zs.drop i) s), ⟨_, rfl, Nat.zero_le _, s0, G1, own, (ok.grow gr).weak hw0, Same.refl _, by rw [List.drop_zero]; exact fin.mono gr.g⟩, ?_⟩
    rintro i m σ2 H2 ⟨rfl, hile, s, G2, own2, ok2, s12, fin2⟩
    by_cases hlt : i < zs.length
    · have hd : (zs.map enc)[i]? = some (enc zs[i]) := by rw [List.getElem?_map, List.getElem?_eq_getElem hlt]; rfl
      obtain ⟨go, yld⟩ := (io i H2 G2 ok2.h0 s12 ok2.gh).1 _ hd
      rw [List.drop_eq_getElem_cons hlt] at fin2
      refine .inr ⟨go, fun σ' H' => zs.length - (i + 1) = zs.length - (i + 1) ∧ i + 1 ≤ zs.length ∧ ∃ s G2 own2, OkX X J G2 H' own2 σ' (L s) ∧ Same G1 G2 ∧ FinS X J L Lo R Dn G2 (forM f (zs.drop (i + 1)) s), fun σ' H' n => ⟨_, by omega, n⟩, fun x H3 y => ?_⟩
      obtain ⟨G3, gr3, den⟩ := yld x H3 y
      refine hgt zs[i] x G3 H3 own2 σ2 (L s) _ (ok2.grow gr3) den fun σ4 own4 ok4 => ⟨zs[i], s, G3, own4, ok4, ?_⟩
      have again : ∀ {s' : γ}, FinS X J L Lo R Dn G2 (forM f (zs.drop (i + 1)) s') → ∀ σ' G' H' own', Same G3 G' → OkX X J G' H' own' σ' (L s') → zs.length - (i + 1) = zs.length - (i + 1) ∧ i + 1 ≤ zs.length ∧ ∃ s G2 own2, OkX X J G2 H' own2 σ' (L s) ∧ Same G1 G2 ∧ FinS X J L Lo R Dn G2 (forM f (zs.drop (i + 1)) s) :=
        fun {s'} q σ' G' H' own' sg ok' => ⟨rfl, hlt, s', G', own', ok', s12.trans (gr3.g.trans sg), q.mono (gr3.g.trans sg)⟩
      unfold forM at fin2
      cases hf : f zs[i] s with
      | ok o =>
        rw [hf] at fin2
        cases o with
        | nx s' => exact fun σ' G' H' own' sg ok' => again fin2 σ' G' H' own' sg ok'
        | ct s' => exact fun σ' G' H' own' sg ok' => again fin2 σ' G' H' own' sg ok'
        | bk s' => exact fun σ' G' H' own' sg ok' => fin2 σ' G' H' own' (gr3.g.trans sg) ok'
        | rt r => exact fin2
      | er x => rw [hf] at fin2; exact FinS.mono (n := .er x) (N := L) (L := L) (R := R) (Dn := ⟨_, _, _, _⟩) fin2 gr3.g
      | no => rw [hf] at fin2; exact fin2.elim
    · have he : i = zs.length := by omega
      subst he
      rw [List.drop_length] at fin2
      exact .inl ⟨(io _ H2 G2 ok2.h0 s12 ok2.gh).2 (by rw [List.length_map]; exact Nat.le_refl _), fin2 σ2 G2 H2 own2 (Same.refl _) ok2⟩
theorem ss_while {mc : γ → M Bool} {f : γ → M (Out γ γ ρ)} {g : γ → M (Out β δ ρ)} (n : Nat) (s0 : γ) (C : CxD X J k) (hc : ∀ s, DT X J (L s) c (mc s)) (hw0 : Wk S (L s0)) (hw : ∀ s, Wk (L s) J.Sx)
    (hb : ∀ s, DSs X J (L s) body L L R (f s)) (hr : ∀ s, DSs X J (L s) rest N Lo R (g s)) :
    DSs X J S (.While c body [] pos :: rest) N Lo R (sq (whileM mc f n s0) g) := by
  have hc' : PT X c (fun σ H Q => ∃ s, tT X J (L s) (mc s) σ H Q) := ⟨fun pins s σ H Q I ⟨z, q⟩ => (hc z).run pins s σ H Q I q⟩
  refine ss_cons (N := L) (ps_imp (ps_while C.po hc' (pss_ex hb)) fun Dn σ H ⟨G, own, ok, fin⟩ => ?_) hr
  refine ⟨fun m σ2 H2 => ∃ s G2 own2, OkX X J G2 H2 own2 σ2 (L s) ∧ FinS X J L Lo R Dn G2 (whileM mc f m s), ⟨n, s0, G, own, ok.weak hw0, fin⟩, ?_⟩
  rintro m σ2 H2 ⟨s, G2, own2, ok2, fin2⟩
  cases m with
  | zero => exact fin2.elim
  | succ m =>
    unfold whileM at fin2
    refine ⟨s, T_bind (FinS.wish (hw s)) ok2 ⟨fin2, ok2⟩ fun b G3 H3 gr ok3 r => ?_⟩
    cases b with
    | false => exact r.1 σ2 G3 H3 own2 (Same.refl _) ok3
    | true =>
      have fin3 := r.1
      simp only [if_true] at fin3
      refine ⟨fun σ' H' => ∃ s G2 own2, OkX X J G2 H' own2 σ' (L s) ∧ FinS X J L Lo R Dn G2 (whileM mc f m s), fun σ' H' q => ⟨m, Nat.lt_succ_self m, q⟩, s, G3, own2, ok3, ?_⟩
      cases hf : f s with
      | ok o =>
        rw [hf] at fin3
        cases o with
        | nx s' => exact fun σ' G' H' own' sg ok' => ⟨s', G', own', ok', fin3.mono sg⟩
        | ct s' => exact fun σ' G' H' own' sg ok' => ⟨s', G', own', ok', fin3.mono sg⟩
        | bk s' => exact fun σ' G' H' own' sg ok' => fin3 σ' G' H' own' sg ok'
        | rt r => exact fin3
      | er x => rw [hf] at fin3; exact fin3
      | no => rw [hf] at fin3; exact fin3.elim
end
end DL

namespace DL
open PySem PySem.Spec PyProof.Rows L2
variable {X : Cx} {J : Jx}
section
variable {α β γ δ ρ : Type} {S : List Sl} {enc : α → D} {enb : β → D} {a b c e : Expr} {es : List Expr} {pos p : Pos} {k j : Nat} {ma mb' : M Int}

/-! ### numbers -/
def mulM (i j : Int) : M Int := if i.natAbs < 2 ^ 64 ∨ j.natAbs < 2 ^ 64 then .ok (i * j) else .no
def divM (i j : Int) : M Int := if 0 < j ∧ j < 2 ^ 1000 then .ok (i / j) else .no
def modM (i j : Int) : M Int := if 0 < j then .ok (i % j) else .no
def powM (i j : Int) : M Int := if 0 ≤ j ∧ j ≤ 1000 ∧ i.natAbs < 2 ^ 64 then .ok (i ^ j.toNat) else .no
theorem e_rI0 {op : Operator} {g : Int → Int → Int} (ho : OpR X (binaryOp op) (rI0 fun i j => .int (g i j))) (ha : DE X J S a eI ma) (hb : DE X J S b eI mb') : DE X J S (.BinOp a op b pos) eI (mb ma fun i => mb mb' fun j => .ok (g i j)) :=
  pe_imp (pe_op ho ha hb) fun σ H Q ⟨G, own, ok, fin⟩ => E_bind Fin.wish ok fin fun i v G1 H1 g1 ok1 d1 r => E_bind Fin.wish ok1 r fun j u G2 H2 g2 ok2 d2 r => by
    cases d1; cases d2
    exact ⟨i, j, rfl, rfl, r _ G2 H2 (Grow.refl ok2.gh) (.int _)⟩
theorem e_rI {op : Operator} {g : Int → Int → Int} {C : Int → Int → Prop} {gm : Int → Int → M Int} (ho : OpR X (binaryOp op) (rI C fun i j => .int (g i j))) (hg : ∀ i j, gm i j = .ok (g i j) ∧ C i j ∨ gm i j = .no) (ha : DE X J S a eI ma) (hb : DE X J S b eI mb') :
    DE X J S (.BinOp a op b pos) eI (mb ma fun i => mb mb' fun j => gm i j) :=
  pe_imp (pe_op ho ha hb) fun σ H Q ⟨G, own, ok, fin⟩ => E_bind Fin.wish ok fin fun i v G1 H1 g1 ok1 d1 r => E_bind Fin.wish ok1 r fun j u G2 H2 g2 ok2 d2 r => by
    cases d1; cases d2
    rcases hg i j with ⟨e, h⟩ | e
    · rw [e] at r
      exact ⟨i, j, rfl, rfl, h, r _ G2 H2 (Grow.refl ok2.gh) (.int _)⟩
    · rw [e] at r; exact r.elim
theorem e_add (ha : DE X J S a eI ma) (hb : DE X J S b eI mb') : DE X J S (.BinOp a .Add b pos) eI (mb ma fun i => mb mb' fun j => .ok (i + j)) := e_rI0 op_add ha hb
theorem e_sub (ha : DE X J S a eI ma) (hb : DE X J S b eI mb') : DE X J S (.BinOp a .Sub b pos) eI (mb ma fun i => mb mb' fun j => .ok (i - j)) := e_rI0 op_sub ha hb
theorem e_mul (ha : DE X J S a eI ma) (hb : DE X J S b eI mb') : DE X J S (.BinOp a .Mult b pos) eI (mb ma fun i => mb mb' fun j => mulM i j) :=
  e_rI (op_mul) (fun i j => by
    unfold mulM
    split
    · rename_i h
      refine .inl ⟨rfl, ?_⟩
      rcases h with h | h
      · left; omega
      · right; omega
    · exact .inr rfl) ha hb
theorem e_div (ha : DE X J S a eI ma) (hb : DE X J S b eI mb') : DE X J S (.BinOp a .FloorDiv b pos) eI (mb ma fun i => mb mb' fun j => divM i j) :=
  e_rI (op_fdivW) (fun i j => by
    unfold divM
    split
    · rename_i h
      exact .inl ⟨rfl, wide_div (b := 1000) h.1 (by have := h.2; omega) (by decide) (by decide)⟩
    · exact .inr rfl) ha hb
theorem e_mod (ha : DE X J S a eI ma) (hb : DE X J S b eI mb') : DE X J S (.BinOp a .Mod b pos) eI (mb ma fun i => mb mb' fun j => modM i j) :=
  e_rI (op_mod) (fun i j => by
    unfold modM
    split
    · rename_i h; exact .inl ⟨rfl, h⟩
    · exact .inr rfl) ha hb
theorem e_pow (ha : DE X J S a eI ma) (hb : DE X J S b eI mb') : DE X J S (.BinOp a .Pow b pos) eI (mb ma fun i => mb mb' fun j => powM i j) :=
  e_rI (op_pow) (fun i j => by
    unfold powM
    split
    · rename_i h; exact .inl ⟨rfl, h.1, by have := h.2.1; omega, h.2.2⟩
    · exact .inr rfl) ha hb
theorem e_neg (ha : DE X J S a eI ma) : DE X J S (.UnaryOp .USub a pos) eI (mb ma fun i => .ok (-i)) :=
  pe_imp (pe_un un_neg ha) fun σ H Q ⟨G, own, ok, fin⟩ => E_bind Fin.wish ok fin fun i v G1 H1 g1 ok1 d1 r => by
    cases d1
    exact ⟨i, rfl, r _ G1 H1 (Grow.refl ok1.gh) (.int _)⟩

/-! ### comparisons, by values -/
/-- what a comparison tells of two values -/
def CmpD (X : Cx) (J : Jx) (op : CmpOp) {α β : Type} (enc : α → D) (enb : β → D) (t : α → β → Bool) : Prop :=
  ∃ r : R2, OpR X (compareOp op) r ∧ ∀ (x : α) (y : β) (v u : V) (G H : Hp) (own : Addr → Option Nat) (Q : VK), Same G H → DenB X J G H own v (enc x) → DenB X J G H own u (enb y) → Q (.bl (t x y)) H → r v u H Q
theorem e_cmp {op : CmpOp} {t : α → β → Bool} {m : M α} {n : M β} (hc : CmpD X J op enc enb t) (ha : DB X J S a enc m) (hb : DB X J S b enb n) (hm : behindInMarks op b = false) : DE X J S (.Compare a [op] [b] pos) eB (mb m fun x => mb n fun y => .ok (t x y)) := by
  obtain ⟨r, ho, hr⟩ := hc
  exact pe_imp (pe_cmpR ho ha hb hm) fun σ H Q ⟨G, own, ok, fin⟩ => B_bind Fin.wish ok fin fun x v G1 H1 g1 ok1 d1 r1 => B_bind Fin.wish ok1 r1 fun y u G2 H2 g2 ok2 d2 r2 =>
    hr x y v u G2 H2 own Q ok2.gh (d1.grow g2) d2 (r2 _ G2 H2 (Grow.refl ok2.gh) (.bl _))
theorem t_cmp {op : CmpOp} {t : α → β → Bool} {m : M α} {n : M β} (hc : CmpD X J op enc enb t) (ha : DB X J S a enc m) (hb : DB X J S b enb n) (hm : behindInMarks op b = false) : DT X J S (.Compare a [op] [b] pos) (mb m fun x => mb n fun y => .ok (t x y)) := by
  obtain ⟨r, ho, hr⟩ := hc
  exact pt_imp (pt_cmpR ho ha hb hm) fun σ H Q ⟨G, own, ok, fin⟩ => B_bind FinT.wish ok fin fun x v G1 H1 g1 ok1 d1 r1 => B_bind FinT.wish ok1 r1 fun y u G2 H2 g2 ok2 d2 r2 =>
    hr x y v u G2 H2 own _ ok2.gh (d1.grow g2) d2 ⟨_, rfl, r2 G2 H2 (Grow.refl ok2.gh)⟩
theorem DenB.int {G H : Hp} {own : Addr → Option Nat} {v : V} {i : Int} (d : DenB X J G H own v (eI i)) : v = .int i := by
  rcases d with d | ⟨_, _, _, _, h, _⟩
  · cases d; rfl
  · cases h
theorem DenB.bl {G H : Hp} {own : Addr → Option Nat} {v : V} {i : Bool} (d : DenB X J G H own v (eB i)) : v = .bl i := by
  rcases d with d | ⟨_, _, _, _, h, _⟩
  · cases d; rfl
  · cases h
theorem DenB.str {G H : Hp} {own : Addr → Option Nat} {v : V} {i : Str} (d : DenB X J G H own v (eS i)) : v = .str i := by
  rcases d with d | ⟨_, _, _, _, h, _⟩
  · cases d; rfl
  · cases h
theorem c_lt : CmpD X J .Lt eI eI fun i j => decide (i < j) := ⟨_, op_lt, fun x y v u G H own Q _ d1 d2 q => ⟨x, y, d1.int, d2.int, q⟩⟩
theorem c_le : CmpD X J .LtE eI eI fun i j => decide (i ≤ j) := ⟨_, op_le, fun x y v u G H own Q _ d1 d2 q => ⟨x, y, d1.int, d2.int, q⟩⟩
theorem c_gt : CmpD X J .Gt eI eI fun i j => decide (j < i) := ⟨_, op_gt, fun x y v u G H own Q _ d1 d2 q => ⟨x, y, d1.int, d2.int, q⟩⟩
theorem c_ge : CmpD X J .GtE eI eI fun i j => decide (j ≤ i) := ⟨_, op_ge, fun x y v u G H own Q _ d1 d2 q => ⟨x, y, d1.int, d2.int, q⟩⟩
theorem c_eq : CmpD X J .Eq eI eI fun i j => decide (i = j) := ⟨_, op_eq, fun x y v u G H own Q _ d1 d2 q => by
  rw [d1.int, d2.int]
  refine ⟨rfl, ?_⟩
  rwa [show decide (V.int x = V.int y) = decide (x = y) by rw [dec_int, Bool.beq_eq_decide_eq]]⟩
theorem c_ne : CmpD X J .NotEq eI eI fun i j => !decide (i = j) := ⟨_, op_ne, fun x y v u G H own Q _ d1 d2 q => by
  rw [d1.int, d2.int]
  refine ⟨rfl, ?_⟩
  rwa [show decide (V.int x = V.int y) = decide (x = y) by rw [dec_int, Bool.beq_eq_decide_eq]]⟩
theorem c_eqB : CmpD X J .Eq eB eB fun i j => decide (i = j) := ⟨_, op_eq, fun x y v u G H own Q _ d1 d2 q => by
  rw [d1.bl, d2.bl]
  refine ⟨rfl, ?_⟩
  rwa [show decide (V.bl x = V.bl y) = decide (x = y) by rw [dec_bl, Bool.beq_eq_decide_eq]]⟩
theorem c_neB : CmpD X J .NotEq eB eB fun i j => !decide (i = j) := ⟨_, op_ne, fun x y v u G H own Q _ d1 d2 q => by
  rw [d1.bl, d2.bl]
  refine ⟨rfl, ?_⟩
  rwa [show decide (V.bl x = V.bl y) = decide (x = y) by rw [dec_bl, Bool.beq_eq_decide_eq]]⟩
theorem c_eqS : CmpD X J .Eq eS eS fun i j => decide (i = j) := ⟨_, op_eq, fun x y v u G H own Q _ d1 d2 q => by
  rw [d1.str, d2.str]
  refine ⟨rfl, ?_⟩
  rwa [show decide (V.str x = V.str y) = decide (x = y) by
    by_cases h : x = y
    · subst h; simp
    · rw [decide_eq_false h, decide_eq_false fun q => h (V.str.inj q)]]⟩
theorem c_neS : CmpD X J .NotEq eS eS fun i j => !decide (i = j) := ⟨_, op_ne, fun x y v u G H own Q _ d1 d2 q => by
  rw [d1.str, d2.str]
  refine ⟨rfl, ?_⟩
  rwa [show decide (V.str x = V.str y) = decide (x = y) by
    by_cases h : x = y
    · subst h; simp
    · rw [decide_eq_false h, decide_eq_false fun q => h (V.str.inj q)]]⟩
/-- x is None, x is not None, x of an optional kind -/
def isNon : D → Bool
  | .non => true
  | _ => false
theorem non_of {G H : Hp} {own : Addr → Option Nat} {v : V} {d : D} (h : DenB X J G H own v d) : decide (v = .non) = isNon d := by
  rcases h with h | ⟨p, vs, ds, rfl, rfl, _⟩
  · cases h <;> simp [isNon]
  · simp [isNon]
theorem eO_non {o : Option α} (hn : ∀ x, enc x ≠ .non) : isNon (eO enc o) = o.isNone := by
  cases o with
  | none => rfl
  | some x =>
    show isNon (enc x) = false
    have h := hn x
    cases q : enc x <;> first | rfl | exact absurd q h
theorem c_isN (hn : ∀ x, enc x ≠ .non) : CmpD X J .Is (eO enc) eU fun o _ => o.isNone := ⟨_, op_isN, fun x y v u G H own Q _ d1 d2 q => by
  have hu : u = .non := by
    rcases d2 with d | ⟨_, _, _, _, h, _⟩
    · cases d; rfl
    · cases h
  refine ⟨hu, ?_⟩
  rw [non_of d1, eO_non hn]; exact q⟩
theorem c_notN (hn : ∀ x, enc x ≠ .non) : CmpD X J .IsNot (eO enc) eU fun o _ => o.isSome := ⟨_, op_notN, fun x y v u G H own Q _ d1 d2 q => by
  have hu : u = .non := by
    rcases d2 with d | ⟨_, _, _, _, h, _⟩
    · cases d; rfl
    · cases h
  refine ⟨hu, ?_⟩
  rw [non_of d1, eO_non hn]
  cases x <;> exact q⟩
theorem inV_ints (i : Int) (ns : List Int) : inV (.int i) (ns.map V.int) = decide (i ∈ ns) := by
  unfold inV
  rw [List.any_map, Bool.eq_iff_iff, List.any_eq_true, decide_eq_true_eq]
  constructor
  · rintro ⟨n, hn, e⟩
    have e' : (n == i) = true := e
    rw [beq_iff_eq] at e'
    exact e' ▸ hn
  · intro h
    exact ⟨i, h, by show (i == i) = true; rw [beq_iff_eq]⟩
theorem flat_ints (ns : List Int) : (ns.map V.int).all flatV = true := by
  rw [List.all_map]
  exact List.all_eq_true.mpr fun _ _ => rfl
theorem c_in : CmpD X J .In eI (eL eI) fun i ns => decide (i ∈ ns) := ⟨_, op_in_seq, fun x y v u G H own Q sg d1 d2 q => by
  obtain ⟨p, vs, rfl, h1, h2⟩ := DenB.list sg d2
  rw [DenL.ints h2] at h1
  rw [d1.int]
  refine ⟨p, _, rfl, .inl (SqL.of h1), rfl, flat_ints y, ?_⟩
  rw [inV_ints]; exact q⟩
theorem c_notIn : CmpD X J .NotIn eI (eL eI) fun i ns => !decide (i ∈ ns) := ⟨_, op_notIn_seq, fun x y v u G H own Q sg d1 d2 q => by
  obtain ⟨p, vs, rfl, h1, h2⟩ := DenB.list sg d2
  rw [DenL.ints h2] at h1
  rw [d1.int]
  refine ⟨p, _, rfl, .inl (SqL.of h1), rfl, flat_ints y, ?_⟩
  rw [inV_ints]; exact q⟩
theorem DenB.tup {G H : Hp} {own : Addr → Option Nat} {v : V} {ds : List D} (e : Same G H) (d : DenB X J G H own v (.tup ds)) : ∃ a vs, v = .ref a ∧ SqT X.K H a vs ∧ DenL X.K J.ca G vs ds := by
  rcases d with d | ⟨_, _, _, _, h, _⟩
  · exact Den.tuple e d
  · cases h
theorem c_inT : CmpD X J .In eI (eT eI) fun i ns => decide (i ∈ ns) := ⟨_, op_in_seq, fun x y v u G H own Q sg d1 d2 q => by
  obtain ⟨p, vs, rfl, h1, h2⟩ := DenB.tup sg d2
  rw [DenL.ints h2] at h1
  rw [d1.int]
  refine ⟨p, _, rfl, .inr h1, rfl, flat_ints y, ?_⟩
  rw [inV_ints]; exact q⟩
theorem c_notInT : CmpD X J .NotIn eI (eT eI) fun i ns => !decide (i ∈ ns) := ⟨_, op_notIn_seq, fun x y v u G H own Q sg d1 d2 q => by
  obtain ⟨p, vs, rfl, h1, h2⟩ := DenB.tup sg d2
  rw [DenL.ints h2] at h1
  rw [d1.int]
  refine ⟨p, _, rfl, .inr h1, rfl, flat_ints y, ?_⟩
  rw [inV_ints]; exact q⟩

/-! ### tests, and, or, not -/
def DW (X : Cx) (J : Jx) (S : List Sl) (e : Expr) (n : M Bool) : Prop := PW X e (tT X J S n)
theorem t_val {m : M Bool} (h : DE X J S e eB m) (he : ∀ whole, isTrue e X.env whole = (do let v ← whole; standAt e.pos; holding [v] (truthy v)) := by intro _; rfl) : DT X J S e m :=
  pt_imp (pt_val h he) fun σ H Q ⟨G, own, ok, fin⟩ => by
    refine ⟨G, own, ok, ?_⟩
    cases m with
    | ok z => exact fun v G' H' g d => by cases d; exact ⟨z, rfl, fin G' H' g⟩
    | er x => exact fin
    | no => exact fin
theorem t_w {m : M Bool} (h : DW X J S e m) : DT X J S e m := h.pt
theorem w_and1 {m : M Bool} (h : DT X J S a m) : DW X J S (.BoolOp .And [a] pos) m := pw_and1 h
theorem w_or1 {m : M Bool} (h : DT X J S a m) : DW X J S (.BoolOp .Or [a] pos) m := pw_or1 h
theorem pw_imp {e : Expr} {t t' : TT} (h : PW X e t) (i : ∀ σ H Q, t' σ H Q → t σ H Q) : PW X e t' := ⟨fun wh pins s σ H Q I q => h.run wh pins s σ H Q I (i σ H Q q)⟩
theorem w_and {m n : M Bool} (h : DT X J S a m) (h2 : DW X J S (.BoolOp .And (b :: es) pos) n) : DW X J S (.BoolOp .And (a :: b :: es) pos) (mb m fun x => if x = true then n else .ok false) :=
  pw_imp (pw_and h h2) fun σ H Q ⟨G, own, ok, fin⟩ => T_bind FinT.wish ok fin fun x G1 H1 g ok1 r => by
    cases x with
    | true => exact ⟨G1, own, ok1, r⟩
    | false => exact r G1 H1 (Grow.refl ok1.gh)
theorem w_or {m n : M Bool} (h : DT X J S a m) (h2 : DW X J S (.BoolOp .Or (b :: es) pos) n) : DW X J S (.BoolOp .Or (a :: b :: es) pos) (mb m fun x => if x = true then .ok true else n) :=
  pw_imp (pw_or h h2) fun σ H Q ⟨G, own, ok, fin⟩ => T_bind FinT.wish ok fin fun x G1 H1 g ok1 r => by
    cases x with
    | false => exact ⟨G1, own, ok1, r⟩
    | true => exact r G1 H1 (Grow.refl ok1.gh)
theorem t_not {m : M Bool} (h : DT X J S a m) : DT X J S (.UnaryOp .Not a pos) (mb m fun x => .ok (!x)) :=
  pt_imp (pt_not h) fun σ H Q ⟨G, own, ok, fin⟩ => T_bind FinT.wish ok fin fun x G1 H1 g ok1 r => r G1 H1 (Grow.refl ok1.gh)
theorem e_one {m : M Bool} {o : BoolOp} (h : DE X J S a eB m) : DE X J S (.BoolOp o [a] pos) eB m := pe_one h
theorem e_and {m n : M Bool} (h : DE X J S a eB m) (h2 : DE X J S (.BoolOp .And (b :: es) pos) eB n) : DE X J S (.BoolOp .And (a :: b :: es) pos) eB (mb m fun x => if x = true then n else .ok false) :=
  pe_imp (pe_and h h2) fun σ H Q ⟨G, own, ok, fin⟩ => E_bind Fin.wish ok fin fun x v G1 H1 g ok1 d r => by
    cases d
    refine ⟨x, rfl, ?_⟩
    cases x with
    | true => exact ⟨G1, own, ok1, r⟩
    | false => exact r _ G1 H1 (Grow.refl ok1.gh) (.bl _)
theorem e_or {m n : M Bool} (h : DE X J S a eB m) (h2 : DE X J S (.BoolOp .Or (b :: es) pos) eB n) : DE X J S (.BoolOp .Or (a :: b :: es) pos) eB (mb m fun x => if x = true then .ok true else n) :=
  pe_imp (pe_or h h2) fun σ H Q ⟨G, own, ok, fin⟩ => E_bind Fin.wish ok fin fun x v G1 H1 g ok1 d r => by
    cases d
    refine ⟨x, rfl, ?_⟩
    cases x with
    | false => exact ⟨G1, own, ok1, r⟩
    | true => exact r _ G1 H1 (Grow.refl ok1.gh) (.bl _)
theorem e_not {m : M Bool} (h : DE X J S a eB m) : DE X J S (.UnaryOp .Not a pos) eB (mb m fun x => .ok (!x)) :=
  pe_imp (pe_not h) fun σ H Q ⟨G, own, ok, fin⟩ => E_bind Fin.wish ok fin fun x v G1 H1 g ok1 d r => by
    cases d
    exact ⟨x, rfl, r _ G1 H1 (Grow.refl ok1.gh) (.bl _)⟩
theorem e_ifE {mc : M Bool} {m n : M α} (hc : DT X J S c mc) (ha : DE X J S a enc m) (hb : DE X J S b enc n) : DE X J S (.IfExp c a b pos) enc (mb mc fun x => if x = true then m else n) :=
  pe_imp (pe_ifExp hc ha hb) fun σ H Q ⟨G, own, ok, fin⟩ => T_bind Fin.wish ok fin fun x G1 H1 g ok1 r => by
    cases x with
    | true => exact ⟨G1, own, ok1, r⟩
    | false => exact ⟨G1, own, ok1, r⟩
/-- a list as a test -/
theorem t_list {m : M (List α)} (ha : DB X J S a (eL enc) m) (he : ∀ whole, isTrue a X.env whole = (do let v ← whole; standAt a.pos; holding [v] (truthy v)) := by intro _; rfl) : DT X J S a (mb m fun xs => .ok (!xs.isEmpty)) :=
  pt_imp (pt_truth ha he) fun σ H Q ⟨G, own, ok, fin⟩ => B_bind FinT.wish ok fin fun xs v G1 H1 g ok1 d r => by
    obtain ⟨p, vs, rfl, h1, h2⟩ := DenB.list ok1.gh d
    refine ⟨_, .inl ⟨vs, SqL.of h1, rfl⟩, ?_⟩
    have hl := h2.length
    rw [List.length_map] at hl
    have e : (!vs.isEmpty) = !xs.isEmpty := by
      cases vs <;> cases xs <;> simp at hl ⊢
    rw [e]
    exact r G1 H1 (Grow.refl ok1.gh)

/-! ### items, cuts, fields -/
def ixM {α : Type} (xs : List α) (i : Int) : M α := match atI xs i with
  | some x => .ok x
  | none => .no
theorem DenL.atI {K : PySem.W.Frag} {ca : Str → Addr} {H : Hp} {vs : List V} {xs : List α} {i : Int} {x : α} (h : DenL K ca H vs (xs.map enc)) (e : atI xs i = some x) : ∃ v, L2.atI vs i = some v ∧ Den K ca H v (enc x) := by
  have hl := h.length
  rw [List.length_map] at hl
  unfold L2.atI at e ⊢
  rw [hl]
  cases q : ixN xs.length i with
  | none => rw [q] at e; cases e
  | some j =>
    rw [q] at e
    have e' : xs[j]? = some x := e
    exact h.get (by rw [List.getElem?_map, e']; rfl)
theorem e_ixL {m : M (List α)} (ha : DB X J S a (eL enc) m) (hb : DE X J S b eI mb') (hs : PlainIx b := by intro _ _; rfl) : DE X J S (.Subscript a b pos) enc (mb m fun xs => mb mb' fun i => ixM xs i) :=
  pe_imp (pe_ix ix_list ha hb hs) fun σ H Q ⟨G, own, ok, fin⟩ => B_bind Fin.wish ok fin fun xs v G1 H1 g ok1 d r => E_bind Fin.wish ok1 r fun i u G2 H2 g2 ok2 d2 r2 => by
    cases d2
    obtain ⟨p, vs, rfl, h1, h2⟩ := DenB.list ok2.gh (d.grow g2)
    unfold ixM at r2
    cases hx : L2.atI xs i with
    | none => rw [hx] at r2; exact r2.elim
    | some x =>
      rw [hx] at r2
      obtain ⟨w, e1, e2⟩ := h2.atI hx
      exact ⟨p, vs, i, w, rfl, rfl, SqL.of h1, e1, r2 w G2 H2 (Grow.refl ok2.gh) e2⟩
theorem e_ixT {m : M (List α)} (ha : DE X J S a (eT enc) m) (hb : DE X J S b eI mb') (hs : PlainIx b := by intro _ _; rfl) : DE X J S (.Subscript a b pos) enc (mb m fun xs => mb mb' fun i => ixM xs i) :=
  pe_imp (pe_ix ix_tup ha hb hs) fun σ H Q ⟨G, own, ok, fin⟩ => E_bind Fin.wish ok fin fun xs v G1 H1 g ok1 d r => E_bind Fin.wish ok1 r fun i u G2 H2 g2 ok2 d2 r2 => by
    cases d2
    obtain ⟨p, vs, rfl, h1, h2⟩ := Den.tuple (X := X) ok2.gh (d.mono g2.g)
    unfold ixM at r2
    cases hx : L2.atI xs i with
    | none => rw [hx] at r2; exact r2.elim
    | some x =>
      rw [hx] at r2
      obtain ⟨w, e1, e2⟩ := h2.atI hx
      exact ⟨p, vs, i, w, rfl, rfl, h1, e1, r2 w G2 H2 (Grow.refl ok2.gh) e2⟩
/-- a tuple of a written length, at a written place -/
theorem e_ixP {m : M α} {g : α → β} {ds : α → List D} (jj : Nat) {kk : Nat} {pk : Pos} (ha : DE X J S a enc m) (hd : ∀ x, enc x = .tup (ds x) ∧ (ds x)[jj]? = some (enb (g x))) : DE X J S (.Subscript a (.Constant (.int (jj : Int)) kk pk) pos) enb (mb m fun x => .ok (g x)) :=
  pe_imp (pe_ix ix_tup ha pe_int (by intro _ _; rfl)) fun σ H Q ⟨G, own, ok, fin⟩ => E_bind Fin.wish ok fin fun x v G1 H1 g1 ok1 d r => by
    rw [(hd x).1] at d
    obtain ⟨p, vs, rfl, h1, h2⟩ := Den.tuple (X := X) ok1.gh d
    obtain ⟨w, e1, e2⟩ := h2.get (hd x).2
    exact ⟨p, vs, jj, w, rfl, rfl, h1, atI_nat e1, r w G1 H1 (Grow.refl ok1.gh) e2⟩
def cut {α : Type} (xs : List α) (lo hi : Option Int) : List α := (xs.drop (HT.sIx xs.length 0 lo)).take (HT.sIx xs.length xs.length hi - HT.sIx xs.length 0 lo)
theorem DenL.cut {K : PySem.W.Frag} {ca : Str → Addr} {H : Hp} {vs : List V} {xs : List α} (lo hi : Option Int) (h : DenL K ca H vs (xs.map enc)) : DenL K ca H (cutV vs lo hi) ((DL.cut xs lo hi).map enc) := by
  have hl := h.length
  rw [List.length_map] at hl
  unfold cutV DL.cut
  rw [hl, List.map_take, List.map_drop]
  exact (h.drop _).take _
/-- a part of a slice -/
def FinP (X : Cx) (J : Jx) (n : M (Option Int)) (σ : L2.St) (G H : Hp) (Q : Option Int → Hp → Prop) : Prop := match n with
  | .ok z => ∀ G' H', Grow G H G' H' → Q z H'
  | .er x => ErK X.K J.ca x G H fun cls d H' => J.W cls d σ H'
  | .no => False
def tP (X : Cx) (J : Jx) (S : List Sl) (n : M (Option Int)) : TO := fun σ H Q => ∃ G own, OkX X J G H own σ S ∧ FinP X J n σ G H Q
def DP (X : Cx) (J : Jx) (S : List Sl) (e : Option Expr) (n : M (Option Int)) : Prop := PO X e (tP X J S n)
theorem po_imp {e : Option Expr} {t t' : TO} (h : PO X e t) (i : ∀ σ H Q, t' σ H Q → t σ H Q) : PO X e t' := ⟨fun pins s σ H Q I q => h.run pins s σ H Q I (i σ H Q q)⟩
theorem FinP.wish {σ : L2.St} {Q : Option Int → Hp → Prop} : Wish (fun n G H => FinP X J n σ G H Q) (fun cls d H' => J.W cls d σ H') X.K J.ca := ⟨fun n _ _ _ _ f g => by
  cases n with
  | ok z => exact fun G2 H2 g2 => f G2 H2 (g.trans g2)
  | er x => exact ErK.grow f g
  | no => exact f, fun _ _ _ f => f, fun _ _ f => f⟩
theorem P_bind {δ : Type} {R : M δ → Hp → Hp → Prop} {σ : L2.St} {G H : Hp} {own : Addr → Option Nat} {n : M (Option Int)} {f : Option Int → M δ} {P : Option Int → Hp → Prop} (w : Wish R (fun cls d H' => J.W cls d σ H') X.K J.ca) (ok : OkX X J G H own σ S) (r : R (mb n f) G H)
    (h : ∀ x G1 H1, Grow G H G1 H1 → OkX X J G1 H1 own σ S → R (f x) G1 H1 → P x H1) : tP X J S n σ H P := by
  refine ⟨G, own, ok, ?_⟩
  cases n with
  | ok x => exact fun G1 H1 g => h x G1 H1 g (ok.grow g) (w.1 _ _ _ _ _ r g)
  | er x => exact w.2.1 _ _ _ r
  | no => exact w.2.2 _ _ r
theorem p_none : DP X J S none (.ok none) := po_imp po_none fun σ H Q ⟨G, own, ok, fin⟩ => fin G H (Grow.refl ok.gh)
theorem p_some (h : DE X J S e eI ma) : DP X J S (some e) (mb ma fun i => .ok (some i)) := po_imp (po_some h) fun σ H Q ⟨G, own, ok, fin⟩ => E_bind FinP.wish ok fin fun i v G1 H1 g ok1 d r => by
  cases d
  exact ⟨i, rfl, r G1 H1 (Grow.refl ok1.gh)⟩
theorem o_cutL {m : M (List α)} {lo hi : Option Expr} {ml mh : M (Option Int)} {p2 : Pos} (ha : DB X J S a (eL enc) m) (hl : DP X J S lo ml) (hh : DP X J S hi mh) : DO X J S (.Subscript a (.Slice lo hi none p2) pos) enc (mb m fun xs => mb ml fun l => mb mh fun h => .ok (cut xs l h)) :=
  pe_imp (pe_slice sl_list ha hl hh) fun σ H Q ⟨G, own, ok, fin⟩ => B_bind FinO.wish ok fin fun xs v G1 H1 g ok1 d r => P_bind FinO.wish ok1 r fun l G2 H2 g2 ok2 r2 => P_bind FinO.wish ok2 r2 fun h G3 H3 g3 ok3 r3 => by
    obtain ⟨p, vs, rfl, h1, h2⟩ := DenB.list ok3.gh (d.grow (g2.trans g3))
    exact ⟨p, vs, rfl, SqL.of h1, fun q hq => r3 q _ G3 _ (Grow.allocO ok3.gh hq) hq upd_same (Same.free ok3.gh hq) (h2.cut l h)⟩
theorem e_cutT {m : M (List α)} {lo hi : Option Expr} {ml mh : M (Option Int)} {p2 : Pos} (ha : DE X J S a (eT enc) m) (hl : DP X J S lo ml) (hh : DP X J S hi mh) : DE X J S (.Subscript a (.Slice lo hi none p2) pos) (eT enc) (mb m fun xs => mb ml fun l => mb mh fun h => .ok (cut xs l h)) :=
  pe_imp (pe_slice sl_tupA ha hl hh) fun σ H Q ⟨G, own, ok, fin⟩ => E_bind Fin.wish ok fin fun xs v G1 H1 g ok1 d r => P_bind Fin.wish ok1 r fun l G2 H2 g2 ok2 r2 => P_bind Fin.wish ok2 r2 fun h G3 H3 g3 ok3 r3 => by
    obtain ⟨p, vs, rfl, h1, h2⟩ := Den.tuple (X := X) ok3.gh (d.mono (g2.trans g3).g)
    obtain ⟨p', vs', e, h1', h2'⟩ := Den.tup' (X := X) (d.mono (g2.trans g3).g)
    have hc := h2.cut l h
    refine ⟨p, vs, rfl, h1, fun hw => ?_, fun _ q hq => ?_⟩
    · refine r3 _ G3 H3 (Grow.refl ok3.gh) ?_
      have hl := h2.length
      rw [List.length_map] at hl
      have e1 : cut xs l h = xs := by
        unfold cut
        rw [← hl, hw.1, hw.2, List.drop_zero, Nat.sub_zero, hl]
        exact List.take_of_length_le (Nat.le_refl _)
      rw [e1]
      exact d.mono (g2.trans g3).g
    · exact r3 _ _ _ (Grow.alloc ok3.gh hq) (.tup (.of upd_same) (hc.mono (same_upd (Same.free ok3.gh hq))))
/-- o.f, o an object with these fields -/
theorem e_fld {f : Str} {m : M α} {g : α → β} {Cn : Str} {fs : α → List (Str × D)} (ha : DE X J S a enc m) (cl : Cls X.K (J.ca Cn)) (na : NoAttr X.K (J.ca Cn) f) (hd : ∀ x, enc x = .obj Cn (fs x) ∧ (fs x).lookup f = some (enb (g x)))
    (hb : attributeBase a f X.env (eval a X.env) = eval a X.env := by rfl) : DE X J S (.Attribute a f pos) enb (mb m fun x => .ok (g x)) :=
  pe_imp (pe_fld ha hb) fun σ H Q ⟨G, own, ok, fin⟩ => E_bind Fin.wish ok fin fun x v G1 H1 g1 ok1 d r => by
    rw [(hd x).1] at d
    cases d with
    | obj h t =>
      obtain ⟨w, e1, e2⟩ := t.lookup (hd x).2
      exact ⟨_, _, _, _, w, rfl, ok1.gh _ _ h, cl, na, e1, r w G1 H1 (Grow.refl ok1.gh) e2⟩

/-! ### arguments, displays -/
def FinA {β : Type} (X : Cx) (J : Jx) (encs : β → List D) (n : M β) (σ : L2.St) (G H : Hp) (Q : List V → Hp → Prop) : Prop := match n with
  | .ok z => ∀ vs G' H', Grow G H G' H' → DenL X.K J.ca G' vs (encs z) → Q vs H'
  | .er x => ErK X.K J.ca x G H fun cls d H' => J.W cls d σ H'
  | .no => False
def tAr {β : Type} (X : Cx) (J : Jx) (S : List Sl) (encs : β → List D) (n : M β) : TA := fun σ H Q => ∃ G own, OkX X J G H own σ S ∧ FinA X J encs n σ G H Q
def DA {β : Type} (X : Cx) (J : Jx) (S : List Sl) (es : List Expr) (encs : β → List D) (n : M β) : Prop := PA X es (tAr X J S encs n)
theorem pa_imp {es : List Expr} {t t' : TA} (h : PA X es t) (i : ∀ σ H Q, t' σ H Q → t σ H Q) : PA X es t' := ⟨fun ps pins s σ H Q I q => h.run ps pins s σ H Q I (i σ H Q q)⟩
theorem FinA.wish {encs : β → List D} {σ : L2.St} {Q : List V → Hp → Prop} : Wish (fun n G H => FinA X J encs n σ G H Q) (fun cls d H' => J.W cls d σ H') X.K J.ca := ⟨fun n _ _ _ _ f g => by
  cases n with
  | ok z => exact fun vs G2 H2 g2 d => f vs G2 H2 (g.trans g2) d
  | er x => exact ErK.grow f g
  | no => exact f, fun _ _ _ f => f, fun _ _ f => f⟩
theorem A_bind {δ : Type} {R : M δ → Hp → Hp → Prop} {σ : L2.St} {G H : Hp} {own : Addr → Option Nat} {encs : β → List D} {n : M β} {f : β → M δ} {P : List V → Hp → Prop} (w : Wish R (fun cls d H' => J.W cls d σ H') X.K J.ca) (ok : OkX X J G H own σ S) (r : R (mb n f) G H)
    (h : ∀ x vs G1 H1, Grow G H G1 H1 → OkX X J G1 H1 own σ S → DenL X.K J.ca G1 vs (encs x) → R (f x) G1 H1 → P vs H1) : tAr X J S encs n σ H P := by
  refine ⟨G, own, ok, ?_⟩
  cases n with
  | ok x => exact fun vs G1 H1 g d => h x vs G1 H1 g (ok.grow g) d (w.1 _ _ _ _ _ r g)
  | er x => exact w.2.1 _ _ _ r
  | no => exact w.2.2 _ _ r
abbrev aN : Unit → List D := fun _ => []
abbrev aC (e : α → D) (es : β → List D) : α × β → List D := fun p => e p.1 :: es p.2
theorem a_nil : DA X J S [] aN (.ok ()) := pa_imp pa_nil fun σ H Q ⟨G, own, ok, fin⟩ => fin [] G H (Grow.refl ok.gh) .nil
theorem a_cons {encs : β → List D} {m : M α} {n : M β} (h : DE X J S a enc m) (h2 : DA X J S es encs n) (hs : starEach (a :: es) X.env = (false, eval a X.env) :: starEach es X.env := by rfl) : DA X J S (a :: es) (aC enc encs) (mb m fun x => mb n fun y => .ok (x, y)) :=
  pa_imp (pa_cons h h2 hs) fun σ H Q ⟨G, own, ok, fin⟩ => E_bind FinA.wish ok fin fun x v G1 H1 g1 ok1 d r => A_bind FinA.wish ok1 r fun y vs G2 H2 g2 ok2 d2 r2 =>
    r2 _ G2 H2 (Grow.refl ok2.gh) (.cons (d.mono g2.g) d2)
/-- a display of like items -/
theorem o_lst {encs : β → List D} {n : M β} {g : β → List α} (h : DA X J S es encs n) (hg : ∀ z, encs z = (g z).map enc) (hl : ∀ z, (g z).length ≤ sizeLine) : DO X J S (.List es pos) enc (mb n fun z => .ok (g z)) :=
  pe_imp (pe_lst h) fun σ H Q ⟨G, own, ok, fin⟩ => A_bind FinO.wish ok fin fun z vs G1 H1 g1 ok1 d r => by
    rw [hg z] at d
    have e := d.length
    rw [List.length_map] at e
    exact ⟨by rw [e]; exact hl z, fun q hq => r q vs G1 _ (Grow.allocO ok1.gh hq) hq upd_same (Same.free ok1.gh hq) d⟩
/-- a tuple of a written length -/
theorem e_tup {encs : β → List D} {n : M β} {kk : Nat} (h : DA X J S es encs n) (hl : ∀ z, (encs z).length ≤ sizeLine) : DE X J S (.Tuple es kk pos) (fun z => .tup (encs z)) n :=
  pe_imp (pe_tup h) fun σ H Q ⟨G, own, ok, fin⟩ => A_bind (f := .ok) (Fin.wish (enc := fun z => D.tup (encs z)) (Q := Q)) ok (by cases n <;> exact fin) fun z vs G1 H1 g1 ok1 d r => by
    exact ⟨by rw [d.length]; exact hl z, fun q hq => r _ _ _ (Grow.alloc ok1.gh hq) (.tup (.of upd_same) (d.mono (same_upd (Same.free ok1.gh hq))))⟩

/-! ### arguments of calls: frozen, or lists lent -/
def FinX {β : Type} (X : Cx) (J : Jx) (encs : β → List Sl) (n : M β) (σ : L2.St) (G H : Hp) (Q : List V → Hp → Prop) : Prop := match n with
  | .ok z => ∀ vs G' H', Grow G H G' H' → ArgL X.K J.ca G' H' vs (encs z) → Q vs H'
  | .er x => ErK X.K J.ca x G H fun cls d H' => J.W cls d σ H'
  | .no => False
def tXr {β : Type} (X : Cx) (J : Jx) (S : List Sl) (encs : β → List Sl) (n : M β) : TA := fun σ H Q => ∃ G own, OkX X J G H own σ S ∧ FinX X J encs n σ G H Q
def DX {β : Type} (X : Cx) (J : Jx) (S : List Sl) (es : List Expr) (encs : β → List Sl) (n : M β) : Prop := PA X es (tXr X J S encs n)
theorem FinX.wish {encs : β → List Sl} {σ : L2.St} {Q : List V → Hp → Prop} : Wish (fun n G H => FinX X J encs n σ G H Q) (fun cls d H' => J.W cls d σ H') X.K J.ca := ⟨fun n _ _ _ _ f g => by
  cases n with
  | ok z => exact fun vs G2 H2 g2 d => f vs G2 H2 (g.trans g2) d
  | er x => exact ErK.grow f g
  | no => exact f, fun _ _ _ f => f, fun _ _ f => f⟩
theorem X_bind {δ : Type} {R : M δ → Hp → Hp → Prop} {σ : L2.St} {G H : Hp} {own : Addr → Option Nat} {encs : β → List Sl} {n : M β} {f : β → M δ} {P : List V → Hp → Prop} (w : Wish R (fun cls d H' => J.W cls d σ H') X.K J.ca) (ok : OkX X J G H own σ S) (r : R (mb n f) G H)
    (h : ∀ x vs G1 H1, Grow G H G1 H1 → OkX X J G1 H1 own σ S → ArgL X.K J.ca G1 H1 vs (encs x) → R (f x) G1 H1 → P vs H1) : tXr X J S encs n σ H P := by
  refine ⟨G, own, ok, ?_⟩
  cases n with
  | ok x => exact fun vs G1 H1 g d => h x vs G1 H1 g (ok.grow g) d (w.1 _ _ _ _ _ r g)
  | er x => exact w.2.1 _ _ _ r
  | no => exact w.2.2 _ _ r
abbrev xN : Unit → List Sl := fun _ => []
abbrev xC (e : α → D) (es : β → List Sl) : α × β → List Sl := fun p => .fr (e p.1) :: es p.2
abbrev xL (e : α → D) (es : β → List Sl) : List α × β → List Sl := fun p => .ln (p.1.map e) :: es p.2
theorem x_nil : DX X J S [] xN (.ok ()) := pa_imp pa_nil fun σ H Q ⟨G, own, ok, fin⟩ => fin [] G H (Grow.refl ok.gh) .nil
theorem x_cons {encs : β → List Sl} {m : M α} {n : M β} (h : DE X J S a enc m) (h2 : DX X J S es encs n) (hs : starEach (a :: es) X.env = (false, eval a X.env) :: starEach es X.env := by rfl) : DX X J S (a :: es) (xC enc encs) (mb m fun x => mb n fun y => .ok (x, y)) :=
  pa_imp (pa_cons h h2 hs) fun σ H Q ⟨G, own, ok, fin⟩ => E_bind FinX.wish ok fin fun x v G1 H1 g1 ok1 d r => X_bind FinX.wish ok1 r fun y vs G2 H2 g2 ok2 d2 r2 =>
    r2 _ G2 H2 (Grow.refl ok2.gh) (.cons (d.mono g2.g) d2)
theorem x_consL {encs : β → List Sl} {m : M (List α)} {n : M β} (h : DB X J S a (eL enc) m) (h2 : DX X J S es encs n) (hs : starEach (a :: es) X.env = (false, eval a X.env) :: starEach es X.env := by rfl) : DX X J S (a :: es) (xL enc encs) (mb m fun x => mb n fun y => .ok (x, y)) :=
  pa_imp (pa_cons h h2 hs) fun σ H Q ⟨G, own, ok, fin⟩ => B_bind FinX.wish ok fin fun x v G1 H1 g1 ok1 d r => X_bind FinX.wish ok1 r fun y vs G2 H2 g2 ok2 d2 r2 => by
    obtain ⟨p, ws, rfl, h1, h3⟩ := DenB.list ok1.gh d
    exact r2 _ G2 H2 (Grow.refl ok2.gh) (.consL (g2.h _ _ h1) (h3.mono g2.g) d2)

/-! ### calls of defs -/
def fnV {β γ ρ : Type} (d : M ρ) (n : M (Out β γ ρ)) : M ρ := match n with
  | .ok (.nx _) => d
  | .ok (.rt r) => .ok r
  | .ok _ => .no
  | .er x => .er x
  | .no => .no
@[simp] theorem fnV_nx {β γ ρ : Type} (d : M ρ) (b : β) : fnV d (.ok (.nx b) : M (Out β γ ρ)) = d := rfl
@[simp] theorem fnV_rt {β γ ρ : Type} (d : M ρ) (b : ρ) : fnV d (.ok (.rt b) : M (Out β γ ρ)) = .ok b := rfl
@[simp] theorem fnV_er {β γ ρ : Type} (d : M ρ) (b : Ex) : fnV d (.er b : M (Out β γ ρ)) = .er b := rfl
def spE (K : PySem.W.Frag) (ca : Str → Addr) {α ρ : Type} (encA : α → List Sl) (enc : ρ → D) (code : α → M ρ) : Sp := spF K ca encA fun a => mb (code a) fun r => .ok (.fr (enc r))
def spO (K : PySem.W.Frag) (ca : Str → Addr) {α ρ : Type} (encA : α → List Sl) (enc : ρ → D) (code : α → M (List ρ)) : Sp := spF K ca encA fun a => mb (code a) fun r => .ok (.ow (r.map enc))
theorem fnO_fnV {R : ρ → RV} {n : M (Out β γ ρ)} {d : M ρ} (hd : d = .no ∨ ∃ r, d = .ok r ∧ R r = .fr .non) : mb (fnV d n) (fun r => .ok (R r)) = fnO R n ∨ mb (fnV d n) (fun r => .ok (R r)) = .no := by
  cases n with
  | ok o =>
    cases o with
    | nx b =>
      rcases hd with rfl | ⟨r, rfl, h⟩
      · exact .inr rfl
      · left; show M.ok (R r) = _; rw [h]; rfl
    | rt r => exact .inl rfl
    | bk c => exact .inl rfl
    | ct c => exact .inl rfl
  | er x => exact .inl rfl
  | no => exact .inl rfl
theorem sp_imp {K : PySem.W.Frag} {ca : Str → Addr} {encA : α → List Sl} {c1 c2 : α → M RV} (h : ∀ a, c2 a = c1 a ∨ c2 a = .no) : ∀ vs H Q E, spF K ca encA c2 vs H Q E → spF K ca encA c1 vs H Q E := fun vs H Q E ⟨a, G, e, d, r⟩ => by
  rcases h a with q | q
  · rw [q] at r; exact ⟨a, G, e, d, r⟩
  · rw [q] at r; exact r.elim
end

section
variable {α β γ δ ρ : Type} {S : List Sl} {enc : α → D} {enb : β → D} {enr : ρ → D} {a b c e : Expr} {es : List Expr} {pos p : Pos} {k j : Nat} {f : Addr} {fd : FuncData} {ps : List Str} {x : Str} {encs : α → List Sl}
/-- a def by its frozen answer -/
theorem fn_E {P : Program} {w : World} {K : PySem.W.Frag} {mg : Str → Option Value} {base : Heap} {ca : Str → Addr} {code : α → M (Out β γ ρ)} {d : M ρ} (h : FnOk P w K mg base (L2N.CX P w) k f fd ps (spF K ca encs fun a => fnO (fun r => .fr (enr r)) (code a)))
    (hd : d = .no ∨ ∃ r, d = .ok r ∧ enr r = .non) : FnOk P w K mg base (L2N.CX P w) k f fd ps (spE K ca encs enr fun a => fnV d (code a)) :=
  h.imp (sp_imp fun a => fnO_fnV (by rcases hd with h | ⟨r, h1, h2⟩; exact .inl h; exact .inr ⟨r, h1, by rw [h2]⟩))
theorem fn_O {P : Program} {w : World} {K : PySem.W.Frag} {mg : Str → Option Value} {base : Heap} {ca : Str → Addr} {code : α → M (Out β γ (List ρ))} (h : FnOk P w K mg base (L2N.CX P w) k f fd ps (spF K ca encs fun a => fnO (fun r => .ow (r.map enr)) (code a))) :
    FnOk P w K mg base (L2N.CX P w) k f fd ps (spO K ca encs enr fun a => fnV .no (code a)) := h.imp (sp_imp fun a => fnO_fnV (.inl rfl))
theorem e_call {code : α → M ρ} {n : M α} (C : CxD X J k) (hj : j ≤ k) (F : FnOk X.prog X.w X.K X.mg X.base (L2N.CX X.prog X.w) j f fd ps (spE X.K J.ca encs enr code)) (hm : X.mg x = some (.ref f)) (hk : PySem.W.keepIn X.K (.ref f) = true) (hb : Binds X.K fd ps [])
    (h : DX X J S (e :: es) encs n) (hg : Gl X x := by rfl) (hdb : (x == ("__debug__" : Str)) = false := by decide) (he : starEach (e :: es) X.env = (false, eval e X.env) :: starEach es X.env := by rfl) (hpl : (backTo pos (starEach es X.env)).any (·.1) = false := by rfl) :
    DE X J S (.Call (.Name x p) (e :: es) [] pos) enr (mb n code) :=
  pe_imp (pe_callSD (F.mono hj) C.room hg hm hk hb .nil (fun σ => L2N.passAt C.tk σ) h hdb he hpl) fun σ H Q ⟨G, own, ok, fin⟩ => X_bind Fin.wish ok fin fun z vs G1 H1 g1 ok1 d r => by
    show spE X.K J.ca encs enr code (vs ++ []) H1 Q _
    rw [List.append_nil]
    refine ⟨z, G1, ok1.gh, d, ?_⟩
    cases hc : code z with
    | ok y => rw [hc] at r; show spR X.K J.ca G1 H1 (mb (code z) _) Q _; rw [hc]; exact fun v G' H' g dv => r v G' H' g dv
    | er q => rw [hc] at r; show spR X.K J.ca G1 H1 (mb (code z) _) Q _; rw [hc]; exact fun cls dd G' H' g ra => r cls dd G' H' g ra
    | no => rw [hc] at r; exact r.elim
theorem o_call {code : α → M (List ρ)} {n : M α} (C : CxD X J k) (hj : j ≤ k) (F : FnOk X.prog X.w X.K X.mg X.base (L2N.CX X.prog X.w) j f fd ps (spO X.K J.ca encs enr code)) (hm : X.mg x = some (.ref f)) (hk : PySem.W.keepIn X.K (.ref f) = true) (hb : Binds X.K fd ps [])
    (h : DX X J S (e :: es) encs n) (hg : Gl X x := by rfl) (hdb : (x == ("__debug__" : Str)) = false := by decide) (he : starEach (e :: es) X.env = (false, eval e X.env) :: starEach es X.env := by rfl) (hpl : (backTo pos (starEach es X.env)).any (·.1) = false := by rfl) :
    DO X J S (.Call (.Name x p) (e :: es) [] pos) enr (mb n code) :=
  pe_imp (pe_callSD (F.mono hj) C.room hg hm hk hb .nil (fun σ => L2N.passAt C.tk σ) h hdb he hpl) fun σ H Q ⟨G, own, ok, fin⟩ => X_bind FinO.wish ok fin fun z vs G1 H1 g1 ok1 d r => by
    show spO X.K J.ca encs enr code (vs ++ []) H1 Q _
    rw [List.append_nil]
    refine ⟨z, G1, ok1.gh, d, ?_⟩
    cases hc : code z with
    | ok y => rw [hc] at r; show spR X.K J.ca G1 H1 (mb (code z) _) Q _; rw [hc]; exact fun p ws G' H' g h1 h2 h3 h4 => r p ws G' H' g h1 h2 h3 h4
    | er q => rw [hc] at r; show spR X.K J.ca G1 H1 (mb (code z) _) Q _; rw [hc]; exact fun cls dd G' H' g ra => r cls dd G' H' g ra
    | no => rw [hc] at r; exact r.elim
end
end DL

namespace DL
open PySem PySem.Spec PyProof.Rows L2
variable {X : Cx} {J : Jx}
section
variable {α β γ δ ρ : Type} {S : List Sl} {enc : α → D} {enb : β → D} {a b c e : Expr} {es : List Expr} {pos p : Pos} {k j : Nat}

/-! ### comprehensions -/
def filL (c : α → M Bool) (f : α → M β) : List α → M (List β)
  | [] => .ok []
  | x :: xs => match c x with
    | .ok true => (match f x with
      | .ok y => mb (filL c f xs) fun ys => .ok (y :: ys)
      | _ => .no)
    | .ok false => filL c f xs
    | _ => .no
def mapL (f : α → M β) : List α → M (List β)
  | [] => .ok []
  | x :: xs => match f x with
    | .ok y => mb (mapL f xs) fun ys => .ok (y :: ys)
    | _ => .no
def lcM (c : α → M Bool) (f : α → M β) (xs : List α) : M (List β) := if xs.length ≤ line then filL c f xs else .no
def mapC (f : α → M β) (xs : List α) : M (List β) := if xs.length ≤ line then mapL f xs else .no
theorem filL_map (f : α → M β) : ∀ xs, filL (fun _ => .ok true) f xs = mapL f xs
  | [] => rfl
  | x :: xs => by
    unfold filL mapL
    rw [filL_map f xs]
theorem mapL_ok {f : α → M β} {g : α → β} : ∀ {xs : List α}, (∀ x ∈ xs, f x = .ok (g x)) → mapL f xs = .ok (xs.map g)
  | [], _ => rfl
  | x :: xs, h => by
    unfold mapL
    rw [h x List.mem_cons_self, mapL_ok fun y hy => h y (List.mem_cons_of_mem _ hy)]
    rfl
theorem mapC_ok {f : α → M β} {g : α → β} {xs : List α} (hl : xs.length ≤ line) (h : ∀ x ∈ xs, f x = .ok (g x)) : mapC f xs = .ok (xs.map g) := by
  unfold mapC
  rw [if_pos hl, mapL_ok h]
theorem filL_ok {c : α → M Bool} {q : α → Bool} {f : α → M β} {g : α → β} : ∀ {xs : List α}, (∀ x ∈ xs, c x = .ok (q x)) → (∀ x ∈ xs, q x = true → f x = .ok (g x)) → filL c f xs = .ok ((xs.filter q).map g)
  | [], _, _ => rfl
  | x :: xs, h, h2 => by
    unfold filL
    rw [h x List.mem_cons_self, filL_ok (fun y hy => h y (List.mem_cons_of_mem _ hy)) fun y hy => h2 y (List.mem_cons_of_mem _ hy)]
    cases hq : q x with
    | true =>
      rw [List.filter_cons_of_pos hq, h2 x List.mem_cons_self hq]
      rfl
    | false =>
      rw [List.filter_cons_of_neg (by rw [hq]; decide)]
theorem lcM_ok {c : α → M Bool} {q : α → Bool} {f : α → M β} {g : α → β} {xs : List α} (hl : xs.length ≤ line) (h : ∀ x ∈ xs, c x = .ok (q x)) (h2 : ∀ x ∈ xs, q x = true → f x = .ok (g x)) : lcM c f xs = .ok ((xs.filter q).map g) := by
  unfold lcM
  rw [if_pos hl, filL_ok h h2]

/-- the block's names forgotten -/
def wipeS (S : List Sl) : List Nat → List Sl
  | [] => S
  | v :: vs => (wipeS S vs).set v .un
theorem wipeS_length (S : List Sl) : ∀ vs, (wipeS S vs).length = S.length
  | [] => rfl
  | v :: vs => by unfold wipeS; rw [List.length_set, wipeS_length S vs]
theorem wipeS_some {S : List Sl} {i : Nat} {s : Sl} : ∀ {vs : List Nat}, (wipeS S vs)[i]? = some s → s = .un ∨ (S[i]? = some s ∧ i ∉ vs)
  | [], h => .inr ⟨h, by simp⟩
  | v :: vs, h => by
    unfold wipeS at h
    by_cases hi : v = i
    · subst hi
      by_cases hv : v < (wipeS S vs).length
      · rw [List.getElem?_set_self hv] at h; cases h; exact .inl rfl
      · rw [List.getElem?_eq_none (by simpa using hv)] at h; cases h
    · rw [List.getElem?_set_ne hi] at h
      rcases wipeS_some h with h | ⟨h1, h2⟩
      · exact .inl h
      · exact .inr ⟨h1, by simp only [List.mem_cons, not_or]; exact ⟨fun e => hi e.symm, h2⟩⟩
theorem Ok.wipe {K : PySem.W.Frag} {ca : Str → Addr} {B : Bs} {G H : Hp} {own : Addr → Option Nat} {σ : L2.St} (k : Ok K ca B G H own σ S) (vs : List Nat) : Ok K ca B G H own (L2.wipe σ vs) (wipeS S vs) := by
  refine ⟨by rw [wipeS_length, wipe_length]; exact k.ln, k.gh, k.g0, k.h0, k.gn, k.ow, fun i s e => ?_⟩
  rcases wipeS_some e with rfl | ⟨h1, h2⟩
  · trivial
  · rw [wipe_out h2]; exact k.sl i s h1
theorem wipe_set {σ : L2.St} {i : Nat} {v : Option V} {vs : List Nat} (h : i ∈ vs) : L2.wipe ((L2.wipe σ vs).set i v) vs = L2.wipe σ vs := by
  have key : ∀ (τ : L2.St) (us : List Nat) (m : Nat), (L2.wipe τ us)[m]? = if m ∈ us then (if m < τ.length then some none else none) else τ[m]? := by
    intro τ us
    induction us with
    | nil => intro m; simp [L2.wipe]
    | cons u us ih =>
      intro m
      unfold L2.wipe
      by_cases hm : u = m
      · subst hm
        by_cases hl : u < τ.length
        · rw [List.getElem?_set_self (by rw [wipe_length]; exact hl)]; simp [hl]
        · rw [List.getElem?_eq_none (by rw [List.length_set, wipe_length]; omega)]; simp [hl]
      · rw [List.getElem?_set_ne hm, ih m]
        have : (m ∈ u :: us) = (m ∈ us) := by simp [Ne.symm hm]
        simp only [this]
  apply List.ext_getElem?
  intro m
  rw [key, key]
  by_cases hm : m ∈ vs
  · simp [hm, wipe_length]
  · have : i ≠ m := fun e => hm (e ▸ h)
    rw [if_neg hm, List.getElem?_set_ne this, key]
theorem Ok.free {K : PySem.W.Frag} {ca : Str → Addr} {B : Bs} {G H : Hp} {own : Addr → Option Nat} {σ : L2.St} {p : Addr} {o : HO} (k : Ok K ca B G H own σ S) (hg : G p = none) (hb : B.H0 p = none) (ho : own p = none) (hx : ∀ (dd : Addr) (ws : List (Str × V)), H dd = some (.xd ws) → dd ≠ p) : Ok K ca B G (upd H p o) own σ S := by
  refine ⟨k.ln, fun b u e => ?_, k.g0, fun b u e => ?_, k.gn, fun b i e => ?_, fun i s e => ?_⟩
  · rw [upd_ne fun z => by rw [z, hg] at e; cases e]; exact k.gh b u e
  · rw [upd_ne fun z => by rw [z, hb] at e; cases e]; exact k.h0 b u e
  · obtain ⟨x, y, z⟩ := k.ow b i e
    refine ⟨x, y, ?_⟩
    rw [upd_ne fun q => by rw [q, ho] at e; cases e]; exact z
  · have q := k.sl i s e
    cases s with
    | un => trivial
    | fr d => exact q
    | ln ds => exact q
    | ow ds =>
      obtain ⟨r, vs, h1, h2, h3, h4⟩ := q
      exact ⟨r, vs, h1, h2, by rw [upd_ne fun z => by rw [z, ho] at h2; cases h2]; exact h3, h4⟩
    | nw r C fs =>
      obtain ⟨h1, h2, dx, vs, h3, h4⟩ := q
      exact ⟨h1, h2, dx, vs, by rw [upd_ne fun z => by rw [z, ho] at h2; cases h2]; exact h3, h4⟩
    | xc a d fs =>
      obtain ⟨h1, h2⟩ := q
      rcases h2 with h2 | ⟨dd, ws, h2, h3, h4⟩
      · exact ⟨h1, .inl h2⟩
      · exact ⟨h1, .inr ⟨dd, ws, h2, by rw [upd_ne (hx dd ws h3)]; exact h3, h4⟩⟩
    | dk kvs =>
      obtain ⟨r, h1, h2, h3⟩ := q
      exact ⟨r, h1, h2, by rw [upd_ne fun z => by rw [z, ho] at h2; cases h2]; exact h3⟩
    | op o d =>
      obtain ⟨t, w, u, h1, h2, h3, h4⟩ := q
      refine ⟨t, w, u, h1, h2, h3, fun ds e => ?_⟩
      obtain ⟨r, vs, e1, e2, e3, e4⟩ := h4 ds e
      exact ⟨r, vs, e1, e2, by rw [upd_ne fun z => by rw [z, ho] at e2; cases e2]; exact e3, e4⟩

abbrev jb (J : Jx) : Jx := ⟨J.ca, fun _ _ _ _ => False, J.B, []⟩
def GSem (X : Cx) (J : Jx) {α : Type} (enc : α → D) (T : α → List Sl → List Sl) (vs : List Nat) (g : TG) : Prop := ∀ (x : α) (v : V) (G H : Hp) (own : Addr → Option Nat) (σ : L2.St) (S : List Sl) (Q : L2.St → Hp → Prop), Ok X.K J.ca J.B G H own (L2.wipe σ vs) S → Den X.K J.ca G v (enc x) →
  (∀ σ' own', Ok X.K J.ca J.B G H own' σ' (T x S) → L2.wipe σ' vs = L2.wipe σ vs → own' = own → Q σ' H) → g v (L2.wipe σ vs) H Q
theorem gs_name {i : Nat} {vs : List Nat} (h : i ∈ vs) : GSem X J enc (fun z S => S.set i (.fr (enc z))) vs (gName i) := fun x v G H own σ S Q ok d q => q _ own (ok.setF d) (wipe_set h) rfl
theorem takesN : L2N.Takes X (fun _ _ _ _ => False) := fun _ _ ⟨_, _, _, _, _, _, _, _, _, _, _, _, _, _, _, _, w⟩ => w.elim
theorem CxD.blk (C : CxD X J k) (s : Shared) (H : Hp) (scope : Scope) (cenv : Env) (fp : List Addr) : CxD (X.blk s H scope cenv fp) (jb J) k := ⟨C.calm, takesN, PassesOwn.never, C.room.mono (Nat.le_refl _), C.nd⟩
theorem lc_imp {ovs : List Nat} {T : α → List Sl → List Sl} {g : TG} {m : M (List α)} {mt : α → M Bool} {f : α → M β} {σ : L2.St} {H : Hp} {Q : VK} (hgs : GSem X J enc T ovs g) (hO : tO X J S enb (mb m fun xs => lcM mt f xs) σ H Q) :
    tLc (tI X J S enc m) g (fun σ H Q => ∃ x, tT X (jb J) (T x (wipeS S ovs)) (mt x) σ H Q) (fun σ H Q => ∃ x, tE X (jb J) (T x (wipeS S ovs)) enb (f x) σ H Q) ovs σ H Q := by
  obtain ⟨G, own, okk, fin⟩ := hO
  refine ⟨G, own, okk, ?_⟩
  cases m with
  | er x => exact fin
  | no => exact fin
  | ok zs =>
    intro I G1 H1 gr io D hD
    have fin : FinO X J enb (lcM mt f zs) σ G H Q := fin
    unfold lcM at fin
    by_cases hz : zs.length ≤ line
    · rw [if_pos hz] at fin
      have ok1 := okk.grow gr
      have hDG : G1 D = none := Same.free ok1.gh hD
      have hDB : J.B.H0 D = none := Same.free ok1.h0 hD
      have hDo : own D = none := by
        cases q : own D with
        | none => rfl
        | some i => exact absurd hD (ok1.ow D i q).2.2
      have hDH : H D = none := Same.free gr.h hD
      -- what stays: the items done so far
      refine ⟨fun i m H2 => m = zs.length - i ∧ i ≤ zs.length ∧ ∃ (G2 : Hp) (acc : List V) (done : List β), OkX X J G2 H2 own σ S ∧ Grow G1 H1 G2 H2 ∧ H2 D = some (.lst acc) ∧ G2 D = none ∧ acc.length ≤ i ∧ DenL X.K J.ca G2 acc (done.map enb) ∧
        FinO X J enb (mb (filL mt f (zs.drop i)) fun ys => .ok (done ++ ys)) σ G H Q, ⟨_, rfl, Nat.zero_le _, G1, [], [], ok1.free hDG hDB hDo (fun dd ws e z => by rw [z, hD] at e; cases e), Grow.allocO ok1.gh hD, upd_same, hDG, Nat.le_refl _, .nil, ?_⟩, ?_⟩
      · rw [List.drop_zero]
        cases q : filL mt f zs with
        | ok ys => rw [q] at fin; exact fin
        | er x => rw [q] at fin; exact fin
        | no => rw [q] at fin; exact fin
      · rintro i m H2 ⟨rfl, hile, G2, acc, done, ok2, g12, hacc, hG2, hal, den, fin2⟩
        by_cases hlt : i < zs.length
        · have hd : (zs.map enc)[i]? = some (enc zs[i]) := by rw [List.getElem?_map, List.getElem?_eq_getElem hlt]; rfl
          obtain ⟨go, yld⟩ := (io i H2 G2 ok2.h0 g12.g ok2.gh).1 _ hd
          rw [List.drop_eq_getElem_cons hlt] at fin2
          refine .inr ⟨go, fun H' => zs.length - (i + 1) = zs.length - (i + 1) ∧ i + 1 ≤ zs.length ∧ ∃ (G2 : Hp) (acc : List V) (done : List β), OkX X J G2 H' own σ S ∧ Grow G1 H1 G2 H' ∧ H' D = some (.lst acc) ∧ G2 D = none ∧ acc.length ≤ i + 1 ∧ DenL X.K J.ca G2 acc (done.map enb) ∧
            FinO X J enb (mb (filL mt f (zs.drop (i + 1))) fun ys => .ok (done ++ ys)) σ G H Q, fun H' n => ⟨_, by omega, n⟩, fun x H3 y => ?_⟩
          obtain ⟨G3, gr3, denx⟩ := yld x H3 y
          have ok3 := ok2.grow gr3
          have hG3 : G3 D = none := by
            rw [gr3.n D (by rw [hacc]; exact fun z => by cases z)]; exact hG2
          refine hgs zs[i] x G3 H3 own σ (wipeS S ovs) _ (ok3.wipe _) denx fun σ4 own4 ok4 hw eo => ⟨hw, ?_⟩
          subst eo
          unfold filL at fin2
          cases hmt : mt zs[i] with
          | er q => rw [hmt] at fin2; exact fin2.elim
          | no => rw [hmt] at fin2; exact fin2.elim
          | ok bt =>
            rw [hmt] at fin2
            refine ⟨zs[i], G3, own4, ok4, ?_⟩
            rw [hmt]
            intro G5 H5 g35
            have g25 := gr3.trans g35
            cases bt with
            | false =>
              simp only [Bool.false_eq_true, if_false]
              exact ⟨trivial, hlt, G5, acc, done, ok2.grow g25, g12.trans g25, g25.h _ _ hacc, by rw [g25.n D (by rw [hacc]; exact fun z => by cases z)]; exact hG2, Nat.le_succ_of_le hal, den.mono g25.g, fin2⟩
            | true =>
              simp only [if_true]
              cases hf : f zs[i] with
              | er q => rw [hf] at fin2; exact fin2.elim
              | no => rw [hf] at fin2; exact fin2.elim
              | ok y =>
                rw [hf] at fin2
                refine ⟨zs[i], G5, own4, ok4.grow g35, ?_⟩
                rw [hf]
                intro v G6 H6 g56 dv
                have g26 := g25.trans g56
                have hG6 : G6 D = none := by rw [g26.n D (by rw [hacc]; exact fun z => by cases z)]; exact hG2
                have ok6 := ok2.grow g26
                have gr6 : Grow G1 H1 G6 H6 := g12.trans g26
                have hne : ∀ b, H1 b ≠ none → b ≠ D := fun b hb z => hb (z ▸ hD)
                refine ⟨acc, g26.h _ _ hacc, Nat.lt_of_le_of_lt hal (Nat.lt_of_lt_of_le hlt (Nat.le_trans hz line_le)), trivial, hlt, G6, acc ++ [v], done ++ [y], ok6.free hG6 hDB hDo (fun dd ws e z => by rw [z, g26.h _ _ hacc] at e; cases e), ⟨gr6.g, fun b o eb => ?_, fun b o eb => ?_, gr6.n⟩, upd_same, hG6, by rw [List.length_append]; exact Nat.succ_le_succ hal, ?_, ?_⟩
                · rw [upd_ne (hne b (by rw [eb]; exact fun z => by cases z))]; exact gr6.h b o eb
                · rw [upd_ne fun z => by rw [z, hG6] at eb; cases eb]; exact gr6.gh b o eb
                · rw [List.map_append]; exact (den.mono g26.g).append (.cons dv .nil)
                · rw [mb_assoc] at fin2
                  simpa only [mb_ok, List.append_assoc, List.singleton_append] using fin2
        · have hi' : i = zs.length := by omega
          subst hi'
          rw [List.drop_length] at fin2
          refine .inl ⟨(io _ H2 G2 ok2.h0 g12.g ok2.gh).2 (by rw [List.length_map]; exact Nat.le_refl _), ?_⟩
          have fin3 : FinO X J enb (.ok (done ++ [])) σ G H Q := fin2
          rw [List.append_nil] at fin3
          exact fin3 D acc G2 H2 (gr.trans g12) hDH hacc hG2 den
    · rw [if_neg hz] at fin; exact fin.elim
theorem o_lc {tg iter elt : Expr} {ifs : List Expr} {scope : Scope} {ow : List (Str × Nat)} {T : α → List Sl → List Sl} {g : TG} {m : M (List α)} {mt : α → M Bool} {f : α → M β} (C : CxD X J k) (hi : DI X J S tg iter enc m) (ok : BlkOk X.N X.env.scope scope ow)
    (hg : ∀ (s : Shared) (H : Hp) (C : Addr) (cl : List (Str × Addr)) (fp : List Addr), PG (X.blk s H scope (compEnvC scope cl C X.env) fp) tg g) (hgs : GSem X J enc T (ow.map (·.2)) g)
    (ht : ∀ (s : Shared) (H : Hp) (C : Addr) (cl : List (Str × Addr)) (fp : List Addr) x, PTs (X.blk s H scope (compEnvC scope cl C X.env) fp) ifs (tT X (jb J) (T x (wipeS S (ow.map (·.2)))) (mt x)))
    (he : ∀ (s : Shared) (H : Hp) (Ca : Addr) (cl : List (Str × Addr)) (fp : List Addr), CxD (X.blk s H scope (compEnvC scope cl Ca X.env) fp) (jb J) k → ∀ x, DE (X.blk s H scope (compEnvC scope cl Ca X.env) fp) (jb J) (T x (wipeS S (ow.map (·.2)))) elt enb (f x)) (hs : ∀ x, foldedSetIterable iter X.env x = pure x := by intro _; rfl) :
    DO X J S (.ListComp elt [⟨tg, iter, ifs, 0⟩] scope pos) enb (mb m fun xs => lcM mt f xs) := by
  have ht' : ∀ (s : Shared) (H : Hp) (C : Addr) (cl : List (Str × Addr)) (fp : List Addr), PTs (X.blk s H scope (compEnvC scope cl C X.env) fp) ifs (fun σ H Q => ∃ x, tT X (jb J) (T x (wipeS S (ow.map (·.2)))) (mt x) σ H Q) :=
    fun s H Ca cl fp => ⟨fun pins s' σ H' Q I ⟨x, q⟩ => (ht s H Ca cl fp x).run pins s' σ H' Q I q⟩
  have he' : ∀ (s : Shared) (H : Hp) (C : Addr) (cl : List (Str × Addr)) (fp : List Addr), PE (X.blk s H scope (compEnvC scope cl C X.env) fp) elt (fun σ H Q => ∃ x, tE X (jb J) (T x (wipeS S (ow.map (·.2)))) enb (f x) σ H Q) :=
    fun s H Ca cl fp => ⟨fun pins s' σ H' Q I ⟨x, q⟩ => (he s H Ca cl fp (C.blk s H scope _ fp) x).run pins s' σ H' Q I q⟩
  exact pe_imp (pe_lc C.calm C.nd hi ok hg ht' he' hs) fun σ H Q q => lc_imp hgs q
/-- x = [..] on one line, x a local -/
theorem ss_asgLc {tg iter elt : Expr} {ifs : List Expr} {scope : Scope} {ow : List (Str × Nat)} {T : α → List Sl → List Sl} {g : TG} {m : M (List α)} {mt : α → M Bool} {f : α → M β} {rest : List Stmt} {N : γ → List Sl} {L : δ → List Sl} {R : ρ → RV} {h : List β → M (Out γ δ ρ)} {i : Nat} {y : Str} {py spos : Pos} (C : CxD X J k) (hi : DI X J S tg iter enc m) (ok : BlkOk X.N X.env.scope scope ow)
    (hg : ∀ (s : Shared) (H : Hp) (C : Addr) (cl : List (Str × Addr)) (fp : List Addr), PG (X.blk s H scope (compEnvC scope cl C X.env) fp) tg g) (hgs : GSem X J enc T (ow.map (·.2)) g)
    (ht : ∀ (s : Shared) (H : Hp) (C : Addr) (cl : List (Str × Addr)) (fp : List Addr) x, PTs (X.blk s H scope (compEnvC scope cl C X.env) fp) ifs (tT X (jb J) (T x (wipeS S (ow.map (·.2)))) (mt x)))
    (he : ∀ (s : Shared) (H : Hp) (Ca : Addr) (cl : List (Str × Addr)) (fp : List Addr), CxD (X.blk s H scope (compEnvC scope cl Ca X.env) fp) (jb J) k → ∀ x, DE (X.blk s H scope (compEnvC scope cl Ca X.env) fp) (jb J) (T x (wipeS S (ow.map (·.2)))) elt enb (f x))
    (hr : ∀ xs, DSs X J (S.set i (.ow (xs.map enb))) rest N L R (h xs)) (hw : Wk S J.Sx) (hy : X.N[i]? = some y := by rfl) (hyl : X.env.scope.names.lookup y = some .local := by rfl) (hk : X.env.scope.kind = .function := by rfl) (hln : (py.line == pos.line) = true := by rfl)
    (ha : (scope.names.any fun (n, k) => n == y && (k == .local || k == .cell)) = false := by rfl) (hs : ∀ x, foldedSetIterable iter X.env x = pure x := by intro _; rfl) :
    DSs X J S (.Assign [.Name y py] (.ListComp elt [⟨tg, iter, ifs, 0⟩] scope pos) spos :: rest) N L R (mb (mb m fun xs => lcM mt f xs) h) := by
  have ht' : ∀ (s : Shared) (H : Hp) (C : Addr) (cl : List (Str × Addr)) (fp : List Addr), PTs (X.blk s H scope (compEnvC scope cl C X.env) fp) ifs (fun σ H Q => ∃ x, tT X (jb J) (T x (wipeS S (ow.map (·.2)))) (mt x) σ H Q) :=
    fun s H Ca cl fp => ⟨fun pins s' σ H' Q I ⟨x, q⟩ => (ht s H Ca cl fp x).run pins s' σ H' Q I q⟩
  have he' : ∀ (s : Shared) (H : Hp) (C : Addr) (cl : List (Str × Addr)) (fp : List Addr), PE (X.blk s H scope (compEnvC scope cl C X.env) fp) elt (fun σ H Q => ∃ x, tE X (jb J) (T x (wipeS S (ow.map (·.2)))) enb (f x) σ H Q) :=
    fun s H Ca cl fp => ⟨fun pins s' σ H' Q I ⟨x, q⟩ => (he s H Ca cl fp (C.blk s H scope _ fp) x).run pins s' σ H' Q I q⟩
  exact pss_imp (pss_cons (ps_setLc C.calm C.nd hy hyl (sw_true hk hyl hln ha) hi ok hg ht' he' hs) (pss_ex hr)) fun Dn σ H ⟨G, own, okk, fin⟩ => by
    unfold tSeq tAsg
    exact lc_imp (J := J) (enb := enb) hgs (O_bind (FinS.wish hw) okk ⟨fin, okk⟩ fun x p vs G1 H1 g ok1 hp ho hq hg d r => ⟨x, G1, _, ok1.setO hq (Same.free okk.h0 hp) hg ho d, r.1⟩)
theorem ts_nil : PTs X [] (tT X J S (.ok true)) := ⟨fun pins s σ H Q I ⟨G, own, ok, fin⟩ => pts_nil.run pins s σ H Q I (fin G H (Grow.refl ok.gh))⟩
/-- without a test -/
theorem o_lc0 {tg iter elt : Expr} {scope : Scope} {ow : List (Str × Nat)} {T : α → List Sl → List Sl} {g : TG} {m : M (List α)} {f : α → M β} (C : CxD X J k) (hi : DI X J S tg iter enc m) (ok : BlkOk X.N X.env.scope scope ow)
    (hg : ∀ (s : Shared) (H : Hp) (C : Addr) (cl : List (Str × Addr)) (fp : List Addr), PG (X.blk s H scope (compEnvC scope cl C X.env) fp) tg g) (hgs : GSem X J enc T (ow.map (·.2)) g)
    (he : ∀ (s : Shared) (H : Hp) (Ca : Addr) (cl : List (Str × Addr)) (fp : List Addr), CxD (X.blk s H scope (compEnvC scope cl Ca X.env) fp) (jb J) k → ∀ x, DE (X.blk s H scope (compEnvC scope cl Ca X.env) fp) (jb J) (T x (wipeS S (ow.map (·.2)))) elt enb (f x)) (hs : ∀ x, foldedSetIterable iter X.env x = pure x := by intro _; rfl) :
    DO X J S (.ListComp elt [⟨tg, iter, [], 0⟩] scope pos) enb (mb m fun xs => mapC f xs) := by
  have e : (fun xs => mapC f xs) = fun xs => lcM (fun _ => .ok true) f xs := by
    funext xs
    unfold mapC lcM
    rw [filL_map]
  rw [e]
  exact o_lc (mt := fun _ => .ok true) C hi ok hg hgs (fun s H Ca cl fp x => ⟨fun pins s' σ H' Q I q => ts_nil.run pins s' σ H' Q I q⟩) he hs
/-- with one test -/
theorem o_lc1 {tg iter elt cond : Expr} {scope : Scope} {ow : List (Str × Nat)} {T : α → List Sl → List Sl} {g : TG} {m : M (List α)} {mt : α → M Bool} {f : α → M β} (C : CxD X J k) (hi : DI X J S tg iter enc m) (ok : BlkOk X.N X.env.scope scope ow)
    (hg : ∀ (s : Shared) (H : Hp) (C : Addr) (cl : List (Str × Addr)) (fp : List Addr), PG (X.blk s H scope (compEnvC scope cl C X.env) fp) tg g) (hgs : GSem X J enc T (ow.map (·.2)) g)
    (ht : ∀ (s : Shared) (H : Hp) (Ca : Addr) (cl : List (Str × Addr)) (fp : List Addr), CxD (X.blk s H scope (compEnvC scope cl Ca X.env) fp) (jb J) k → ∀ x, DT (X.blk s H scope (compEnvC scope cl Ca X.env) fp) (jb J) (T x (wipeS S (ow.map (·.2)))) cond (mt x))
    (he : ∀ (s : Shared) (H : Hp) (Ca : Addr) (cl : List (Str × Addr)) (fp : List Addr), CxD (X.blk s H scope (compEnvC scope cl Ca X.env) fp) (jb J) k → ∀ x, DE (X.blk s H scope (compEnvC scope cl Ca X.env) fp) (jb J) (T x (wipeS S (ow.map (·.2)))) elt enb (f x)) (hs : ∀ x, foldedSetIterable iter X.env x = pure x := by intro _; rfl) :
    DO X J S (.ListComp elt [⟨tg, iter, [cond], 0⟩] scope pos) enb (mb m fun xs => lcM mt f xs) :=
  o_lc C hi ok hg hgs (fun s H Ca cl fp x => pts_one (ht s H Ca cl fp (C.blk s H scope _ fp) x)) he hs
/-- the same without a test, with one -/
theorem ss_asgLc0 {tg iter elt : Expr} {scope : Scope} {ow : List (Str × Nat)} {T : α → List Sl → List Sl} {g : TG} {m : M (List α)} {f : α → M β} {rest : List Stmt} {N : γ → List Sl} {L : δ → List Sl} {R : ρ → RV} {h : List β → M (Out γ δ ρ)} {i : Nat} {y : Str} {py spos : Pos} (C : CxD X J k) (hi : DI X J S tg iter enc m) (ok : BlkOk X.N X.env.scope scope ow)
    (hg : ∀ (s : Shared) (H : Hp) (C : Addr) (cl : List (Str × Addr)) (fp : List Addr), PG (X.blk s H scope (compEnvC scope cl C X.env) fp) tg g) (hgs : GSem X J enc T (ow.map (·.2)) g)
    (he : ∀ (s : Shared) (H : Hp) (Ca : Addr) (cl : List (Str × Addr)) (fp : List Addr), CxD (X.blk s H scope (compEnvC scope cl Ca X.env) fp) (jb J) k → ∀ x, DE (X.blk s H scope (compEnvC scope cl Ca X.env) fp) (jb J) (T x (wipeS S (ow.map (·.2)))) elt enb (f x))
    (hr : ∀ xs, DSs X J (S.set i (.ow (xs.map enb))) rest N L R (h xs)) (hw : Wk S J.Sx) (hy : X.N[i]? = some y := by rfl) (hyl : X.env.scope.names.lookup y = some .local := by rfl) (hk : X.env.scope.kind = .function := by rfl) (hln : (py.line == pos.line) = true := by rfl)
    (ha : (scope.names.any fun (n, k) => n == y && (k == .local || k == .cell)) = false := by rfl) (hs : ∀ x, foldedSetIterable iter X.env x = pure x := by intro _; rfl) :
    DSs X J S (.Assign [.Name y py] (.ListComp elt [⟨tg, iter, [], 0⟩] scope pos) spos :: rest) N L R (mb (mb m fun xs => mapC f xs) h) := by
  have e : (fun xs => mapC f xs) = fun xs => lcM (fun _ => .ok true) f xs := by
    funext xs
    unfold mapC lcM
    rw [filL_map]
  rw [e]
  exact ss_asgLc (mt := fun _ => .ok true) C hi ok hg hgs (fun s H Ca cl fp x => ⟨fun pins s' σ H' Q I q => ts_nil.run pins s' σ H' Q I q⟩) he hr hw hy hyl hk hln ha hs
theorem ss_asgLc1 {tg iter elt cond : Expr} {scope : Scope} {ow : List (Str × Nat)} {T : α → List Sl → List Sl} {g : TG} {m : M (List α)} {mt : α → M Bool} {f : α → M β} {rest : List Stmt} {N : γ → List Sl} {L : δ → List Sl} {R : ρ → RV} {h : List β → M (Out γ δ ρ)} {i : Nat} {y : Str} {py spos : Pos} (C : CxD X J k) (hi : DI X J S tg iter enc m) (ok : BlkOk X.N X.env.scope scope ow)
    (hg : ∀ (s : Shared) (H : Hp) (C : Addr) (cl : List (Str × Addr)) (fp : List Addr), PG (X.blk s H scope (compEnvC scope cl C X.env) fp) tg g) (hgs : GSem X J enc T (ow.map (·.2)) g)
    (ht : ∀ (s : Shared) (H : Hp) (Ca : Addr) (cl : List (Str × Addr)) (fp : List Addr), CxD (X.blk s H scope (compEnvC scope cl Ca X.env) fp) (jb J) k → ∀ x, DT (X.blk s H scope (compEnvC scope cl Ca X.env) fp) (jb J) (T x (wipeS S (ow.map (·.2)))) cond (mt x))
    (he : ∀ (s : Shared) (H : Hp) (Ca : Addr) (cl : List (Str × Addr)) (fp : List Addr), CxD (X.blk s H scope (compEnvC scope cl Ca X.env) fp) (jb J) k → ∀ x, DE (X.blk s H scope (compEnvC scope cl Ca X.env) fp) (jb J) (T x (wipeS S (ow.map (·.2)))) elt enb (f x))
    (hr : ∀ xs, DSs X J (S.set i (.ow (xs.map enb))) rest N L R (h xs)) (hw : Wk S J.Sx) (hy : X.N[i]? = some y := by rfl) (hyl : X.env.scope.names.lookup y = some .local := by rfl) (hk : X.env.scope.kind = .function := by rfl) (hln : (py.line == pos.line) = true := by rfl)
    (ha : (scope.names.any fun (n, k) => n == y && (k == .local || k == .cell)) = false := by rfl) (hs : ∀ x, foldedSetIterable iter X.env x = pure x := by intro _; rfl) :
    DSs X J S (.Assign [.Name y py] (.ListComp elt [⟨tg, iter, [cond], 0⟩] scope pos) spos :: rest) N L R (mb (mb m fun xs => lcM mt f xs) h) :=
  ss_asgLc C hi ok hg hgs (fun s H Ca cl fp x => pts_one (ht s H Ca cl fp (C.blk s H scope _ fp) x)) he hr hw hy hyl hk hln ha hs
end
end DL

namespace DL
open PySem PySem.Spec PyProof.Rows L2
variable {X : Cx} {J : Jx}
section
variable {α β γ δ ρ : Type} {S : List Sl} {enc : α → D} {enb : β → D} {a b c e : Expr} {es : List Expr} {pos p : Pos} {k j : Nat}

/-! ### built-in calls -/
theorem e_lenL {m : M (List α)} (hm : X.mg "len" = none) (h : PA X [a] (tCons (tEb X J S (eL enc) m) tNil)) (hg : Gl X "len" := by rfl)
    (he : starEach (a :: []) X.env = (false, eval a X.env) :: starEach [] X.env := by rfl) (hpl : (backTo pos (starEach [] X.env)).any (·.1) = false := by rfl) : DE X J S (.Call (.Name "len" p) [a] [] pos) eI (mb m fun xs => .ok (xs.length : Int)) :=
  pe_imp (pe_callB call_len_seq hg hm PySem.boot_len h (by decide) (by decide) he hpl) fun σ H Q ⟨G, own, ok, fin⟩ => B_bind Fin.wish ok fin fun xs v G1 H1 g ok1 d r => by
    obtain ⟨q, vs, rfl, h1, h2⟩ := DenB.list ok1.gh d
    refine ⟨q, vs, rfl, .inl (SqL.of h1), ?_⟩
    have e := h2.length
    rw [List.length_map] at e
    rw [e]
    exact r _ G1 H1 (Grow.refl ok1.gh) (.int _)
theorem e_lenT {m : M (List α)} (hm : X.mg "len" = none) (h : PA X [a] (tCons (tE X J S (eT enc) m) tNil)) (hg : Gl X "len" := by rfl)
    (he : starEach (a :: []) X.env = (false, eval a X.env) :: starEach [] X.env := by rfl) (hpl : (backTo pos (starEach [] X.env)).any (·.1) = false := by rfl) : DE X J S (.Call (.Name "len" p) [a] [] pos) eI (mb m fun xs => .ok (xs.length : Int)) :=
  pe_imp (pe_callB call_len_seq hg hm PySem.boot_len h (by decide) (by decide) he hpl) fun σ H Q ⟨G, own, ok, fin⟩ => E_bind Fin.wish ok fin fun xs v G1 H1 g ok1 d r => by
    obtain ⟨q, vs, rfl, h1, h2⟩ := Den.tuple (X := X) ok1.gh d
    refine ⟨q, vs, rfl, .inr h1, ?_⟩
    have e := h2.length
    rw [List.length_map] at e
    rw [e]
    exact r _ G1 H1 (Grow.refl ok1.gh) (.int _)
/-- the law's script -/
abbrev eScr : List Int → D := fun ns => .scr (ns.map D.int)
theorem e_lenS {m : M (List Int)} (hm : X.mg "len" = none) (h : PA X [a] (tCons (tE X J S eScr m) tNil)) (hg : Gl X "len" := by rfl)
    (he : starEach (a :: []) X.env = (false, eval a X.env) :: starEach [] X.env := by rfl) (hpl : (backTo pos (starEach [] X.env)).any (·.1) = false := by rfl) : DE X J S (.Call (.Name "len" p) [a] [] pos) eI (mb m fun xs => .ok (xs.length : Int)) :=
  pe_imp (pe_callB call_len_seq hg hm PySem.boot_len h (by decide) (by decide) he hpl) fun σ H Q ⟨G, own, ok, fin⟩ => E_bind Fin.wish ok fin fun xs v G1 H1 g ok1 d r => by
    cases d with
    | scr h1 h2 =>
      refine ⟨_, _, rfl, .inl (ok1.gh.seq h1), ?_⟩
      have e := h2.length
      rw [List.length_map] at e
      rw [e]
      exact r _ G1 H1 (Grow.refl ok1.gh) (.int _)
theorem e_ixS {m : M (List Int)} {mi : M Int} (ha : DE X J S a eScr m) (hb : DE X J S b eI mi) (hs : PlainIx b := by intro _ _; rfl) : DE X J S (.Subscript a b pos) eI (mb m fun xs => mb mi fun i => ixM xs i) :=
  pe_imp (pe_ix ix_list ha hb hs) fun σ H Q ⟨G, own, ok, fin⟩ => E_bind Fin.wish ok fin fun xs v G1 H1 g ok1 d r => E_bind Fin.wish ok1 r fun i u G2 H2 g2 ok2 d2 r2 => by
    cases d2
    cases d with
    | scr h1 h2 =>
      unfold ixM at r2
      cases hx : L2.atI xs i with
      | none => rw [hx] at r2; exact r2.elim
      | some x =>
        rw [hx] at r2
        obtain ⟨w, e1, e2⟩ := (h2.mono g2.g).atI hx
        exact ⟨_, _, i, w, rfl, rfl, (g2.gh.seq (g2.g.seq h1)), e1, r2 w G2 H2 (Grow.refl ok2.gh) e2⟩
theorem e_intI {m : M Int} (hm : X.mg "int" = none) (h : PA X [a] (tCons (tE X J S eI m) tNil)) (hg : Gl X "int" := by rfl)
    (he : starEach (a :: []) X.env = (false, eval a X.env) :: starEach [] X.env := by rfl) (hpl : (backTo pos (starEach [] X.env)).any (·.1) = false := by rfl) : DE X J S (.Call (.Name "int" p) [a] [] pos) eI m :=
  pe_imp (pe_callTy call_int1 hg hm boot_int h (by decide) (by decide) he hpl) fun σ H Q ⟨G, own, ok, fin⟩ => E_bind (f := .ok) (Fin.wish (enc := eI) (Q := Q)) ok (by cases m <;> exact fin) fun i v G1 H1 g ok1 d r => by
    cases d
    exact .inl ⟨i, rfl, r _ G1 H1 (Grow.refl ok1.gh) (.int _)⟩
/-- list(xs), of a list | a tuple -/
theorem o_list {m : M (List α)} (hm : X.mg "list" = none) (h : PA X [a] (tCons (tEb X J S (eL enc) m) tNil)) (hg : Gl X "list" := by rfl)
    (he : starEach (a :: []) X.env = (false, eval a X.env) :: starEach [] X.env := by rfl) (hpl : (backTo pos (starEach [] X.env)).any (·.1) = false := by rfl) : DO X J S (.Call (.Name "list" p) [a] [] pos) enc m :=
  pe_imp (pe_callTy call_list_of hg hm boot_list h (by decide) (by decide) he hpl) fun σ H Q ⟨G, own, ok, fin⟩ => B_bind (f := .ok) (FinO.wish (enc := enc) (Q := Q)) ok (by cases m <;> exact fin) fun xs v G1 H1 g ok1 d r => by
    obtain ⟨q, vs, rfl, h1, h2⟩ := DenB.list ok1.gh d
    exact ⟨q, vs, rfl, .inl (SqL.of h1), fun l hl => r l vs G1 _ (Grow.allocO ok1.gh hl) hl upd_same (Same.free ok1.gh hl) h2⟩
theorem o_listT {m : M (List α)} (hm : X.mg "list" = none) (h : PA X [a] (tCons (tE X J S (eT enc) m) tNil)) (hg : Gl X "list" := by rfl)
    (he : starEach (a :: []) X.env = (false, eval a X.env) :: starEach [] X.env := by rfl) (hpl : (backTo pos (starEach [] X.env)).any (·.1) = false := by rfl) : DO X J S (.Call (.Name "list" p) [a] [] pos) enc m :=
  pe_imp (pe_callTy call_list_of hg hm boot_list h (by decide) (by decide) he hpl) fun σ H Q ⟨G, own, ok, fin⟩ => E_bind (f := .ok) (FinO.wish (enc := enc) (Q := Q)) ok (by cases m <;> exact fin) fun xs v G1 H1 g ok1 d r => by
    obtain ⟨q, vs, rfl, h1, h2⟩ := Den.tuple (X := X) ok1.gh d
    exact ⟨q, vs, rfl, .inr h1, fun l hl => r l vs G1 _ (Grow.allocO ok1.gh hl) hl upd_same (Same.free ok1.gh hl) h2⟩
/-- tuple(xs), of a list | a tuple -/
theorem e_tuple {m : M (List α)} (hm : X.mg "tuple" = none) (h : PA X [a] (tCons (tEb X J S (eL enc) m) tNil)) (hg : Gl X "tuple" := by rfl)
    (he : starEach (a :: []) X.env = (false, eval a X.env) :: starEach [] X.env := by rfl) (hpl : (backTo pos (starEach [] X.env)).any (·.1) = false := by rfl) : DE X J S (.Call (.Name "tuple" p) [a] [] pos) (eT enc) m :=
  pe_imp (pe_callTy call_tuple_of hg hm boot_tuple h (by decide) (by decide) he hpl) fun σ H Q ⟨G, own, ok, fin⟩ => B_bind (f := .ok) (Fin.wish (enc := eT enc) (Q := Q)) ok (by cases m <;> exact fin) fun xs v G1 H1 g ok1 d r => by
    obtain ⟨q, vs, rfl, h1, h2⟩ := DenB.list ok1.gh d
    exact ⟨q, vs, rfl, .inl ⟨SqL.of h1, fun l hl => r _ _ _ (Grow.alloc ok1.gh hl) (.tup (.of upd_same) (h2.mono (same_upd (Same.free ok1.gh hl))))⟩⟩
theorem e_tupleT {m : M (List α)} (hm : X.mg "tuple" = none) (h : PA X [a] (tCons (tE X J S (eT enc) m) tNil)) (hg : Gl X "tuple" := by rfl)
    (he : starEach (a :: []) X.env = (false, eval a X.env) :: starEach [] X.env := by rfl) (hpl : (backTo pos (starEach [] X.env)).any (·.1) = false := by rfl) : DE X J S (.Call (.Name "tuple" p) [a] [] pos) (eT enc) m :=
  pe_imp (pe_callTy call_tuple_of hg hm boot_tuple h (by decide) (by decide) he hpl) fun σ H Q ⟨G, own, ok, fin⟩ => E_bind (f := .ok) (Fin.wish (enc := eT enc) (Q := Q)) ok (by cases m <;> exact fin) fun xs v G1 H1 g ok1 d r => by
    have d' := d
    obtain ⟨q, vs, rfl, h1, h2⟩ := Den.tuple (X := X) ok1.gh d
    exact ⟨q, vs, rfl, .inr ⟨h1, r _ G1 H1 (Grow.refl ok1.gh) d'⟩⟩
theorem e_sum {m : M (List Int)} (hc : X.calm = true) (hm : X.mg "sum" = none) (h : PA X [a] (tCons (tEb X J S (eL eI) m) tNil)) (hg : Gl X "sum" := by rfl)
    (he : starEach (a :: []) X.env = (false, eval a X.env) :: starEach [] X.env := by rfl) (hpl : (backTo pos (starEach [] X.env)).any (·.1) = false := by rfl) : DE X J S (.Call (.Name "sum" p) [a] [] pos) eI (mb m fun xs => .ok xs.sum) :=
  pe_imp (pe_callB (cr_sum hc) hg hm (by decide +kernel) h (by decide) (by decide) he hpl) fun σ H Q ⟨G, own, ok, fin⟩ => B_bind Fin.wish ok fin fun xs v G1 H1 g ok1 d r => by
    obtain ⟨q, vs, rfl, h1, h2⟩ := DenB.list ok1.gh d
    rw [DenL.ints h2] at h1
    exact ⟨q, xs, rfl, SqL.of h1, r _ G1 H1 (Grow.refl ok1.gh) (.int _)⟩
def lstMax (d : Int) : List Int → Int
  | [] => d
  | x :: xs => xs.foldl max x
/-- the greatest, the least of ints -/
def maxI : List Int → M Int
  | [] => .no
  | x :: xs => .ok (xs.foldl max x)
def minI : List Int → M Int
  | [] => .no
  | x :: xs => .ok (xs.foldl min x)
theorem foldl_max : ∀ (xs : List Int) (x : Int), xs.foldl max x ∈ x :: xs ∧ ∀ y ∈ x :: xs, y ≤ xs.foldl max x
  | [], x => ⟨List.mem_cons_self, fun y h => by cases h with | head => exact Int.le_refl _ | tail _ h => cases h⟩
  | z :: xs, x => by
    obtain ⟨h1, h2⟩ := foldl_max xs (max x z)
    rw [List.foldl_cons]
    refine ⟨?_, fun y hy => ?_⟩
    · rcases List.mem_cons.mp h1 with h | h
      · rw [h]
        by_cases q : x ≤ z
        · rw [Int.max_eq_right q]; exact List.mem_cons_of_mem _ List.mem_cons_self
        · rw [Int.max_eq_left (by omega)]; exact List.mem_cons_self
      · exact List.mem_cons_of_mem _ (List.mem_cons_of_mem _ h)
    · have hm := h2 (max x z) List.mem_cons_self
      rcases List.mem_cons.mp hy with rfl | hy
      · omega
      · rcases List.mem_cons.mp hy with rfl | hy
        · omega
        · exact h2 y (List.mem_cons_of_mem _ hy)
theorem foldl_min : ∀ (xs : List Int) (x : Int), xs.foldl min x ∈ x :: xs ∧ ∀ y ∈ x :: xs, xs.foldl min x ≤ y
  | [], x => ⟨List.mem_cons_self, fun y h => by cases h with | head => exact Int.le_refl _ | tail _ h => cases h⟩
  | z :: xs, x => by
    obtain ⟨h1, h2⟩ := foldl_min xs (min x z)
    rw [List.foldl_cons]
    refine ⟨?_, fun y hy => ?_⟩
    · rcases List.mem_cons.mp h1 with h | h
      · rw [h]
        by_cases q : x ≤ z
        · rw [Int.min_eq_left q]; exact List.mem_cons_self
        · rw [Int.min_eq_right (by omega)]; exact List.mem_cons_of_mem _ List.mem_cons_self
      · exact List.mem_cons_of_mem _ (List.mem_cons_of_mem _ h)
    · have hm := h2 (min x z) List.mem_cons_self
      rcases List.mem_cons.mp hy with rfl | hy
      · omega
      · rcases List.mem_cons.mp hy with rfl | hy
        · omega
        · exact h2 y (List.mem_cons_of_mem _ hy)
theorem e_maxL {m : M (List Int)} (hc : X.calm = true) (hm : X.mg "max" = none) (h : PA X [a] (tCons (tEb X J S (eL eI) m) tNil)) (hg : Gl X "max" := by rfl)
    (he : starEach (a :: []) X.env = (false, eval a X.env) :: starEach [] X.env := by rfl) (hpl : (backTo pos (starEach [] X.env)).any (·.1) = false := by rfl) : DE X J S (.Call (.Name "max" p) [a] [] pos) eI (mb m fun xs => maxI xs) :=
  pe_imp (pe_callB (cr_max hc) hg hm (by decide +kernel) h (by decide) (by decide) he hpl) fun σ H Q ⟨G, own, ok, fin⟩ => B_bind Fin.wish ok fin fun xs v G1 H1 g ok1 d r => by
    obtain ⟨q, vs, rfl, h1, h2⟩ := DenB.list ok1.gh d
    rw [DenL.ints h2] at h1
    cases xs with
    | nil => exact r.elim
    | cons x xs =>
      refine ⟨q, _, rfl, SqL.of h1, Nat.succ_pos _, fun mx h3 h4 => ?_⟩
      obtain ⟨f1, f2⟩ := foldl_max xs x
      have e : mx = xs.foldl max x := Int.le_antisymm (f2 _ h3) (h4 _ f1)
      rw [e]
      exact r _ G1 H1 (Grow.refl ok1.gh) (.int _)
theorem e_minL {m : M (List Int)} (hc : X.calm = true) (hm : X.mg "min" = none) (h : PA X [a] (tCons (tEb X J S (eL eI) m) tNil)) (hg : Gl X "min" := by rfl)
    (he : starEach (a :: []) X.env = (false, eval a X.env) :: starEach [] X.env := by rfl) (hpl : (backTo pos (starEach [] X.env)).any (·.1) = false := by rfl) : DE X J S (.Call (.Name "min" p) [a] [] pos) eI (mb m fun xs => minI xs) :=
  pe_imp (pe_callB (cr_min hc) hg hm (by decide +kernel) h (by decide) (by decide) he hpl) fun σ H Q ⟨G, own, ok, fin⟩ => B_bind Fin.wish ok fin fun xs v G1 H1 g ok1 d r => by
    obtain ⟨q, vs, rfl, h1, h2⟩ := DenB.list ok1.gh d
    rw [DenL.ints h2] at h1
    cases xs with
    | nil => exact r.elim
    | cons x xs =>
      refine ⟨q, _, rfl, SqL.of h1, Nat.succ_pos _, fun mx h3 h4 => ?_⟩
      obtain ⟨f1, f2⟩ := foldl_min xs x
      have e : mx = xs.foldl min x := Int.le_antisymm (h4 _ f1) (f2 _ h3)
      rw [e]
      exact r _ G1 H1 (Grow.refl ok1.gh) (.int _)
theorem e_max2 {m n : M Int} (hc : X.calm = true) (hm : X.mg "max" = none) (h : PA X [a, b] (tCons (tE X J S eI m) (tCons (tE X J S eI n) tNil))) (hg : Gl X "max" := by rfl)
    (he : starEach (a :: [b]) X.env = (false, eval a X.env) :: starEach [b] X.env := by rfl) (hpl : (backTo pos (starEach [b] X.env)).any (·.1) = false := by rfl) : DE X J S (.Call (.Name "max" p) [a, b] [] pos) eI (mb m fun x => mb n fun y => .ok (max x y)) :=
  pe_imp (pe_callB (call_max2 hc) hg hm (by decide +kernel) h (by decide) (by decide) he hpl) fun σ H Q ⟨G, own, ok, fin⟩ => E_bind Fin.wish ok fin fun x v G1 H1 g ok1 d r => E_bind Fin.wish ok1 r fun y u G2 H2 g2 ok2 d2 r2 => by
    cases d; cases d2
    refine ⟨x, y, rfl, ?_⟩
    rw [show (if y > x then y else x) = max x y by
      by_cases q : y > x
      · rw [if_pos q, Int.max_eq_right (by omega)]
      · rw [if_neg q, Int.max_eq_left (by omega)]]
    exact r2 _ G2 H2 (Grow.refl ok2.gh) (.int _)
theorem e_min2 {m n : M Int} (hc : X.calm = true) (hm : X.mg "min" = none) (h : PA X [a, b] (tCons (tE X J S eI m) (tCons (tE X J S eI n) tNil))) (hg : Gl X "min" := by rfl)
    (he : starEach (a :: [b]) X.env = (false, eval a X.env) :: starEach [b] X.env := by rfl) (hpl : (backTo pos (starEach [b] X.env)).any (·.1) = false := by rfl) : DE X J S (.Call (.Name "min" p) [a, b] [] pos) eI (mb m fun x => mb n fun y => .ok (min x y)) :=
  pe_imp (pe_callB (call_min2 hc) hg hm (by decide +kernel) h (by decide) (by decide) he hpl) fun σ H Q ⟨G, own, ok, fin⟩ => E_bind Fin.wish ok fin fun x v G1 H1 g ok1 d r => E_bind Fin.wish ok1 r fun y u G2 H2 g2 ok2 d2 r2 => by
    cases d; cases d2
    refine ⟨x, y, rfl, ?_⟩
    rw [show (if y < x then y else x) = min x y by
      by_cases q : y < x
      · rw [if_pos q, Int.min_eq_right (by omega)]
      · rw [if_neg q, Int.min_eq_left (by omega)]]
    exact r2 _ G2 H2 (Grow.refl ok2.gh) (.int _)
/-- a list repeated, joined -/
def repM (xs : List α) (k : Int) : M (List α) := if xs.length * k.toNat ≤ line ∧ k < 2 ^ 62 ∧ -(2 ^ 62) < k then .ok (List.replicate k.toNat xs).flatten else .no
def catM (xs ys : List α) : M (List α) := if xs.length + ys.length ≤ line then .ok (xs ++ ys) else .no
theorem DenL.rep {K : PySem.W.Frag} {ca : Str → Addr} {H : Hp} {vs : List V} {ds : List D} (h : DenL K ca H vs ds) : ∀ n, DenL K ca H (List.replicate n vs).flatten (List.replicate n ds).flatten
  | 0 => .nil
  | n + 1 => by
    rw [List.replicate_succ, List.replicate_succ, List.flatten_cons, List.flatten_cons]
    exact h.append (DenL.rep h n)
theorem map_rep (xs : List α) (n : Nat) : (List.replicate n (xs.map enc)).flatten = (List.replicate n xs).flatten.map enc := by
  rw [List.map_flatten, List.map_replicate]
theorem o_rep {m : M (List α)} {n : M Int} (ha : DB X J S a (eL enc) m) (hb : DE X J S b eI n) : DO X J S (.BinOp a .Mult b pos) enc (mb m fun xs => mb n fun k => repM xs k) :=
  pe_imp (pe_op op_rep ha hb) fun σ H Q ⟨G, own, ok, fin⟩ => B_bind FinO.wish ok fin fun xs v G1 H1 g ok1 d r => E_bind FinO.wish ok1 r fun i u G2 H2 g2 ok2 d2 r2 => by
    cases d2
    obtain ⟨q, vs, rfl, h1, h2⟩ := DenB.list ok2.gh (d.grow g2)
    have el := h2.length
    rw [List.length_map] at el
    unfold repM at r2
    split at r2
    · rename_i hz
      refine ⟨q, i, vs, rfl, rfl, h1, by omega, by omega, by rw [el]; exact Nat.le_trans hz.1 line_le, fun l hl => r2 l _ G2 _ (Grow.allocO ok2.gh hl) hl upd_same (Same.free ok2.gh hl) ?_⟩
      rw [← map_rep]
      exact h2.rep _
    · exact r2.elim
theorem o_cat {m n : M (List α)} (ha : DB X J S a (eL enc) m) (hb : DB X J S b (eL enc) n) : DO X J S (.BinOp a .Add b pos) enc (mb m fun xs => mb n fun ys => catM xs ys) :=
  pe_imp (pe_op op_cat ha hb) fun σ H Q ⟨G, own, ok, fin⟩ => B_bind FinO.wish ok fin fun xs v G1 H1 g ok1 d r => B_bind FinO.wish ok1 r fun ys u G2 H2 g2 ok2 d2 r2 => by
    obtain ⟨q, vs, rfl, h1, h2⟩ := DenB.list ok2.gh (d.grow g2)
    obtain ⟨q', ws, rfl, h1', h2'⟩ := DenB.list ok2.gh d2
    have el := h2.length
    have el' := h2'.length
    rw [List.length_map] at el el'
    unfold catM at r2
    split at r2
    · rename_i hz
      refine ⟨q, q', vs, ws, rfl, rfl, h1, h1', by rw [el, el']; exact Nat.le_trans hz line_le, fun l hl => r2 l _ G2 _ (Grow.allocO ok2.gh hl) hl upd_same (Same.free ok2.gh hl) ?_⟩
      rw [List.map_append]
      exact h2.append h2'
    · exact r2.elim
theorem e_catT {m n : M (List α)} (ha : DE X J S a (eT enc) m) (hb : DE X J S b (eT enc) n) : DE X J S (.BinOp a .Add b pos) (eT enc) (mb m fun xs => mb n fun ys => catM xs ys) :=
  pe_imp (pe_op op_catA ha hb) fun σ H Q ⟨G, own, ok, fin⟩ => E_bind Fin.wish ok fin fun xs v G1 H1 g ok1 d r => E_bind Fin.wish ok1 r fun ys u G2 H2 g2 ok2 d2 r2 => by
    have d1' := d.mono g2.g
    have d2' := d2
    obtain ⟨q, vs, rfl, h1, h2⟩ := Den.tuple (X := X) ok2.gh d1'
    obtain ⟨q', ws, rfl, h1', h2'⟩ := Den.tuple (X := X) ok2.gh d2
    have el := h2.length
    have el' := h2'.length
    rw [List.length_map] at el el'
    unfold catM at r2
    split at r2
    · rename_i hz
      refine ⟨q, q', vs, ws, rfl, rfl, h1, h1', by rw [el, el']; exact Nat.le_trans hz line_le, fun e0 => ?_, fun e0 e1 => ?_, fun e0 e1 l hl => ?_⟩
      · have : xs = [] := by rw [e0] at el; exact List.length_eq_zero_iff.mp el.symm
        subst this
        exact r2 _ G2 H2 (Grow.refl ok2.gh) d2'
      · have : ys = [] := by rw [e1] at el'; exact List.length_eq_zero_iff.mp el'.symm
        subst this
        rw [List.append_nil] at r2
        exact r2 _ G2 H2 (Grow.refl ok2.gh) d1'
      · refine r2 _ _ _ (Grow.alloc ok2.gh hl) (.tup (.of upd_same) ?_)
        rw [List.map_append]
        exact (h2.append h2').mono (same_upd (Same.free ok2.gh hl))
    · exact r2.elim
/-- list(range(..)) -/
theorem DenL.rgV {K : PySem.W.Frag} {ca : Str → Addr} {H : Hp} (i j : Int) : DenL K ca H (L2.rgV i j) ((rng i j).map eI) := by
  have e : L2.rgV i j = (rng i j).map V.int := by
    unfold L2.rgV rng
    rw [List.map_map]
    rfl
  rw [e]
  exact DL.DenL.of_ints _
def rngL (lo hi : Int) : M (List Int) := if okI lo && okI hi && decide ((hi - lo).toNat ≤ line) then .ok (rng lo hi) else .no
theorem o_rng1 {m : M Int} {p2 pos2 : Pos} (hc : X.calm = true) (hm : X.mg "list" = none) (hm2 : X.mg "range" = none) (ha : DE X J S a eI m) (hg : Gl X "list" := by rfl) (hg2 : Gl X "range" := by rfl) (na : starEach [a] X.env = (false, eval a X.env) :: starEach [] X.env := by rfl)
    (nb : starEach [Expr.Call (.Name "range" p2) [a] [] pos2] X.env = (false, eval (.Call (.Name "range" p2) [a] [] pos2) X.env) :: starEach [] X.env := by rfl) :
    DO X J S (.Call (.Name "list" p) [.Call (.Name "range" p2) [a] [] pos2] [] pos) eI (mb m fun n => rngL 0 n) :=
  pe_imp (pe_listRg hc hg hm (prg_1 hg2 hm2 ha na) nb) fun σ H Q ⟨G, own, ok, fin⟩ => E_bind FinO.wish ok fin fun i v G1 H1 g ok1 d r => by
    cases d
    unfold rngL at r
    split at r
    · rename_i h
      simp only [okI, Bool.and_eq_true, decide_eq_true_eq] at h
      refine ⟨i, rfl, ⟨h.1.1.1, h.1.1.2, h.1.2.1, h.1.2.2, Nat.le_trans h.2 (by decide)⟩, fun q hq => r q _ G1 _ (Grow.allocO ok1.gh hq) hq upd_same (Same.free ok1.gh hq) (DenL.rgV 0 i)⟩
    · exact r.elim
theorem o_rng2 {m n : M Int} {p2 pos2 : Pos} (hc : X.calm = true) (hm : X.mg "list" = none) (hm2 : X.mg "range" = none) (ha : DE X J S a eI m) (hb : DE X J S b eI n) (hg : Gl X "list" := by rfl) (hg2 : Gl X "range" := by rfl) (na : starEach [a, b] X.env = (false, eval a X.env) :: starEach [b] X.env := by rfl) (na2 : starEach [b] X.env = (false, eval b X.env) :: starEach [] X.env := by rfl)
    (hp2 : (backTo pos2 (starEach [b] X.env)).any (·.1) = false := by rfl) (nb : starEach [Expr.Call (.Name "range" p2) [a, b] [] pos2] X.env = (false, eval (.Call (.Name "range" p2) [a, b] [] pos2) X.env) :: starEach [] X.env := by rfl) :
    DO X J S (.Call (.Name "list" p) [.Call (.Name "range" p2) [a, b] [] pos2] [] pos) eI (mb m fun i => mb n fun j => rngL i j) :=
  pe_imp (pe_listRg hc hg hm (prg_2 hg2 hm2 ha hb na na2 hp2) nb) fun σ H Q ⟨G, own, ok, fin⟩ => E_bind FinO.wish ok fin fun i v G1 H1 g ok1 d r => E_bind FinO.wish ok1 r fun j u G2 H2 g2 ok2 d2 r2 => by
    cases d; cases d2
    unfold rngL at r2
    split at r2
    · rename_i h
      simp only [okI, Bool.and_eq_true, decide_eq_true_eq] at h
      refine ⟨i, j, rfl, rfl, ⟨h.1.1.1, h.1.1.2, h.1.2.1, h.1.2.2, Nat.le_trans h.2 (by decide)⟩, fun q hq => r2 q _ G2 _ (Grow.allocO ok2.gh hq) hq upd_same (Same.free ok2.gh hq) (DenL.rgV i j)⟩
    · exact r2.elim

/-! ### isinstance -/
theorem e_isi {m : M α} {t : α → Bool} {cv : V} {u : Value} (hm : X.mg "isinstance" = none) (hT : ClsV cv u)
    (hty : ∀ z v G H own, Same G H → DenB X J G H own v (enc z) → ∃ t', TyX X.K H v t' ∧ PySem.W.kitOne X.K t' u = some (t z)) (h : PA X [a, b] (tCons (tEb X J S enc m) (tCons (tC cv) tNil))) (hg : Gl X "isinstance" := by rfl)
    (he : starEach (a :: [b]) X.env = (false, eval a X.env) :: starEach [b] X.env := by rfl) (hpl : (backTo pos (starEach [b] X.env)).any (·.1) = false := by rfl) : DE X J S (.Call (.Name "isinstance" p) [a, b] [] pos) eB (mb m fun z => .ok (t z)) :=
  pe_imp (pe_callB call_isi hg hm PyProof.Rows.boot_isinstance h (by decide) (by decide) he hpl) fun σ H Q ⟨G, own, ok, fin⟩ => B_bind Fin.wish ok fin fun z v G1 H1 g ok1 d r => by
    obtain ⟨t', h1, h2⟩ := hty z v G1 H1 own ok1.gh d
    exact ⟨v, cv, t', u, _, rfl, hT, h1, h2, r _ G1 H1 (Grow.refl ok1.gh) (.bl _)⟩
theorem ty_int {T : String} {r : Bool} (h : kitB "int" T = some r) : ∀ (z : Int) v G H own, Same G H → DenB X J G H own v (eI z) → ∃ t', TyX X.K H v t' ∧ PySem.W.kitOne X.K t' (.type T) = some ((fun _ => r) z) :=
  fun z v G H own sg d => ⟨_, .base (by rw [d.int]; exact .int _), kit_ty h⟩
theorem ty_bl {T : String} {r : Bool} (h : kitB "bool" T = some r) : ∀ (z : Bool) v G H own, Same G H → DenB X J G H own v (eB z) → ∃ t', TyX X.K H v t' ∧ PySem.W.kitOne X.K t' (.type T) = some ((fun _ => r) z) :=
  fun z v G H own sg d => ⟨_, .base (by rw [d.bl]; exact .bl _), kit_ty h⟩
theorem ty_str {T : String} {r : Bool} (h : kitB "str" T = some r) : ∀ (z : Str) v G H own, Same G H → DenB X J G H own v (eS z) → ∃ t', TyX X.K H v t' ∧ PySem.W.kitOne X.K t' (.type T) = some ((fun _ => r) z) :=
  fun z v G H own sg d => ⟨_, .base (by rw [d.str]; exact .str _), kit_ty h⟩
theorem ty_lst {T : String} {r : Bool} (h : kitB "list" T = some r) : ∀ (z : List α) v G H own, Same G H → DenB X J G H own v (eL enc z) → ∃ t', TyX X.K H v t' ∧ PySem.W.kitOne X.K t' (.type T) = some ((fun _ => r) z) :=
  fun z v G H own sg d => by
    obtain ⟨q, vs, rfl, h1, h2⟩ := DenB.list sg d
    exact ⟨_, .base (.lst h1), kit_ty h⟩
theorem sqT_ty {K : PySem.W.Frag} {H : Hp} {q : Addr} {vs : List V} (h : SqT K H q vs) : TyX K H (.ref q) (.type "tuple") := by
  rcases h with (h | ⟨o, h⟩) | ⟨o, its, n, h1, h2, _⟩
  · exact .base (.tup h)
  · exact .fTuple h
  · exact .kTuple h1 h2
theorem ty_tup {T : String} {r : Bool} (h : kitB "tuple" T = some r) : ∀ (z : List α) v G H own, Same G H → DenB X J G H own v (eT enc z) → ∃ t', TyX X.K H v t' ∧ PySem.W.kitOne X.K t' (.type T) = some ((fun _ => r) z) :=
  fun z v G H own sg d => by
    obtain ⟨q, vs, rfl, h1, h2⟩ := DenB.tup sg d
    exact ⟨_, sqT_ty h1, kit_ty h⟩

/-! ### == of data -/
structure PdE {α : Type} (enc : α → D) (pd : α → PyData) (n : Nat) : Prop where
  dp : ∀ {K : PySem.W.Frag} {ca : Str → Addr} {G H : Hp} {v : V} {x : α}, Same G H → Den K ca G v (enc x) → Dp K H v (pd x)
  lay : ∀ x, (pd x).canLay0 = true
  dep : ∀ x, (pd x).depth ≤ n
  eq : ∀ x y, PyData.eqv (pd x) (pd y) = true ↔ x = y
theorem pd_int : PdE eI PyData.int 1 := ⟨fun _ d => by cases d; exact .int _, fun _ => rfl, fun _ => by simp [PyData.depth], fun x y => by simp [PyData.eqv]⟩
theorem pd_bl : PdE eB PyData.bool 1 := ⟨fun _ d => by cases d; exact .bl _, fun _ => rfl, fun _ => by simp [PyData.depth], fun x y => by simp [PyData.eqv]⟩
theorem pd_all {pd : α → PyData} {n : Nat} (h : PdE enc pd n) : (∀ {K : PySem.W.Frag} {ca : Str → Addr} {G H : Hp} {vs : List V} {xs : List α}, Same G H → DenL K ca G vs (xs.map enc) → DpAll K H vs (xs.map pd)) ∧ (∀ xs : List α, PyData.canLayAll0 (xs.map pd) = true) ∧
    (∀ xs : List α, PyData.depthAll (xs.map pd) ≤ n) ∧ ∀ xs ys : List α, PyData.eqvAll (xs.map pd) (ys.map pd) = true ↔ xs = ys := by
  refine ⟨fun {K ca G H vs xs} sg => ?_, fun xs => ?_, fun xs => ?_, fun xs => ?_⟩
  · induction xs generalizing vs with
    | nil => intro d; cases d; exact .nil
    | cons x xs ih => intro d; cases d with | cons d1 d2 => exact .cons (h.dp sg d1) (ih d2)
  · induction xs with
    | nil => rfl
    | cons x xs ih => rw [List.map_cons, PyData.canLayAll0, h.lay, ih]; rfl
  · induction xs with
    | nil => simp [PyData.depthAll]
    | cons x xs ih =>
      rw [List.map_cons, PyData.depthAll]
      exact Nat.max_le.mpr ⟨h.dep x, ih⟩
  · induction xs with
    | nil => intro ys; cases ys <;> simp [PyData.eqvAll]
    | cons x xs ih =>
      intro ys
      cases ys with
      | nil => simp [PyData.eqvAll]
      | cons y ys =>
        rw [List.map_cons, List.map_cons, PyData.eqvAll, Bool.and_eq_true, h.eq, ih, List.cons.injEq]
theorem pd_lst {pd : α → PyData} {n : Nat} (h : PdE enc pd n) : PdE (eL enc) (fun xs => .list (xs.map pd)) (n + 1) := by
  obtain ⟨h1, h2, h3, h4⟩ := pd_all h
  refine ⟨fun sg d => ?_, fun x => h2 x, fun x => ?_, fun x y => ?_⟩
  · cases d with | lst q t => exact .lst (SqL.of (sg _ _ q)) (h1 sg t)
  · simp only [PyData.depth]; have := h3 x; omega
  · rw [PyData.eqv]; exact h4 x y
theorem pd_tup {pd : α → PyData} {n : Nat} (h : PdE enc pd n) : PdE (eT enc) (fun xs => .tuple (xs.map pd)) (n + 1) := by
  obtain ⟨h1, h2, h3, h4⟩ := pd_all h
  refine ⟨fun sg d => ?_, fun x => h2 x, fun x => ?_, fun x y => ?_⟩
  · cases d with | tup q t => exact .tup (same_seqT sg q) (h1 sg t)
  · simp only [PyData.depth]; have := h3 x; omega
  · rw [PyData.eqv]; exact h4 x y
/-- lent lists as well -/
theorem DenB.dp {pd : α → PyData} {n : Nat} {G H : Hp} {own : Addr → Option Nat} {v : V} {x : α} (h : PdE enc pd n) (sg : Same G H) (d : DenB X J G H own v (enc x)) : Dp X.K H v (pd x) := by
  rcases d with d | ⟨q, vs, ds, rfl, e, h3, h4, h5⟩
  · exact h.dp sg d
  · have d' : Den X.K J.ca (upd G q (.lst vs)) (.ref q) (enc x) := by
      rw [e]
      exact .lst upd_same (h4.mono (same_upd h5))
    exact h.dp (H := H) (fun b o z => by
      by_cases hb : b = q
      · subst hb; rw [upd_same] at z; cases z; exact h3
      · rw [upd_ne hb] at z; exact sg _ _ z) d'
theorem c_eqD [DecidableEq α] {pd : α → PyData} {n : Nat} (h : PdE enc pd n) (hn : n ≤ 64) (hu : X.A.units + 64 < cLine) : CmpD X J .Eq enc enc fun x y => decide (x = y) := ⟨_, op_eqD hu, fun x y v u G H own Q sg d1 d2 q => by
  have sh : ∀ z, SeqAt.shaped (pd z) = true := fun z => by
    unfold SeqAt.shaped
    rw [h.lay, decide_eq_true (Nat.le_trans (h.dep z) hn)]; rfl
  refine ⟨pd x, pd y, d1.dp h sg, d2.dp h sg, sh x, sh y, ?_⟩
  rw [show PyData.eqv (pd x) (pd y) = decide (x = y) by rw [Bool.eq_iff_iff, h.eq, decide_eq_true_eq]]
  exact q⟩
theorem c_neD [DecidableEq α] {pd : α → PyData} {n : Nat} (h : PdE enc pd n) (hn : n ≤ 64) (hu : X.A.units + 64 < cLine) : CmpD X J .NotEq enc enc fun x y => !decide (x = y) := ⟨_, op_neD hu, fun x y v u G H own Q sg d1 d2 q => by
  have sh : ∀ z, SeqAt.shaped (pd z) = true := fun z => by
    unfold SeqAt.shaped
    rw [h.lay, decide_eq_true (Nat.le_trans (h.dep z) hn)]; rfl
  refine ⟨pd x, pd y, d1.dp h sg, d2.dp h sg, sh x, sh y, ?_⟩
  rw [show PyData.eqv (pd x) (pd y) = decide (x = y) by rw [Bool.eq_iff_iff, h.eq, decide_eq_true_eq]]
  exact q⟩
end
end DL

namespace DL
open PySem PySem.Spec PyProof.Rows L2
variable {X : Cx} {J : Jx}

/-! ### exceptions of own classes are made -/
theorem mkN {CX : CXT} {x : Str} {C fI : Addr} {k : Nat} {fd : FuncData} {ps : List Str} {sp : Sp} {e : Expr} {es : List Expr} {ta : TA} {p pos : Pos}
    (T : OexC X.K C) (hI : PySem.W.findIn X.K (.ref C) "__init__" = some (some (.ref fI)))
    (hT : PySem.W.typeIn X.K (.ref fI) = some (.type "function")) (F1 : FnOk X.prog X.w X.K X.mg X.base CX k fI fd ps sp)
    (hr : Room (k + 1) X.A) (hb : Binds X.K fd ps []) (hx : Passes CX X fun _ _ _ => False) (hg : Gl X x)
    (hm : X.mg x = some (.ref C)) (ha : PA X (e :: es) ta) (hdb : (x == ("__debug__" : Str)) = false)
    (he : starEach (e :: es) X.env = (false, eval e X.env) :: starEach es X.env)
    (hpl : (backTo pos (starEach es X.env)).any (·.1) = false) :
    L2N.PMk X (.Call (.Name x p) (e :: es) [] pos) (tMkO C sp [] ta) := by
  intro pins s σ H Q I h
  obtain ⟨nm, q, N, bs, bm, sn, sub, ab, col, dd, k0, k1, k2, k3, k5, hC, hbm⟩ := T.cls
  refine wpAny_Call_Name_kw (ld_glob I hg hm ?_ hdb)
  refine PySem.W.callWith_K (h₀ := X.base) I.ok.mod.kin T.kC
    (thn (ha.run pos pins s σ H _ I h) fun us t ⟨vs, H1, I1, r1, hz, q1⟩ => ⟨I1.kIn, ?_⟩) he hpl
  obtain ⟨hp, g, dr, tk, os⟩ := t
  have hsz : hp.objs.size ≤ hp.objs.size + 1 := Nat.le_succ _
  have hq := q1 (hp.objs.size + 1) (I1.hok.fresh hsz)
  have kk : ∀ b o, hp.get? b = some o →
      ((hp.push (PySem.W.kdv_tup us)).push (PySem.HandSPX.excO C hp.objs.size)).get? b = some o :=
    fun b o z => Heap.get?_push_of_some _ (Heap.get?_push_of_some _ z)
  have hnew : ((hp.push (PySem.W.kdv_tup us)).push (PySem.HandSPX.excO C hp.objs.size)).get? (hp.objs.size + 1) =
      some (PySem.HandSPX.excO C hp.objs.size) := by heap_get
  have I2 := I1.laid (t' := tk) kk hsz (o := exo (hp.objs.size + 1) C none) (exo_ok hnew)
  have r2 : Vals (V.ref (hp.objs.size + 1) :: (vs ++ [])) (Value.ref (hp.objs.size + 1) :: (us ++ [])) := .cons rfl (r1.append .nil)
  have hl : (Value.ref (hp.objs.size + 1) :: us ++ []).length = ps.length := by
    have z := r2.length
    rw [F1.len _ _ _ _ hq] at z
    exact z.symm
  have hus : us.length ≤ sizeLine := by rw [← Paired.length r1]; exact Nat.le_trans hz (by decide)
  have hbb : BindsTo ⟨(hp.push (PySem.W.kdv_tup us)).push (PySem.HandSPX.excO C hp.objs.size), g, dr, tk, os⟩ fd
      ⟨Value.ref (hp.objs.size + 1) :: us, []⟩ (ps.zip (Value.ref (hp.objs.size + 1) :: (us ++ []))) :=
    hb _ (Value.ref (hp.objs.size + 1) :: us) I2.kIn hl
  show wpAny _ _ (call (.ref C) us) _ _ _
  refine wpAny_call (PySem.HandSPX.call_own F.excBase_ValueError
    (fun Y => PySem.HandSPX.refsVE_contains Y bm hbm) (I1.kIn _ _ hC)
    (PySem.W.looks_findIn I1.kIn hI) (fun self => PySem.W.bind_fn I1.kIn self hT) hus
    (codeAny_mono (F1.run _ X.stack _ _ ⟨Value.ref (hp.objs.size + 1) :: us, []⟩ (Value.ref (hp.objs.size + 1) :: (us ++ []))
      _ _ (fun _ _ _ => False) (hr.make C us []) (I2.env0.make C us [])
      hbb r2 hq) fun r s' z => ?_))
  cases r with
  | error er => exact hx pins σ _ _ er s' I2 z
  | ok fl =>
    cases fl with
    | ret u =>
      obtain ⟨v, H2, os2, bare2, un2, hok2, rv, ev, d, fs, ea, ed, hd1, q2⟩ := z
      subst ev
      obtain ⟨h2, g2, d2, t2, os'⟩ := s'
      obtain ⟨t0, G, J', kG, ge, hoe, na⟩ := mk_end0 (d2 := d2) (t2 := t2) I1 hsz kk un2 hok2 os2 bare2 ea ed hd1
      exact ⟨rv, hp.objs.size + 1, _, _, ⟨G, g2, d2, t2, os'⟩, _, .ref C, some d, rfl, J', kG, ge, hoe,
        ⟨rfl, rfl, fun vs hv => by cases hv; rfl⟩, rfl, rfl, na, rfl, bare2, raises_own T.exC T.tyC, q2⟩
    | next => exact z.elim
    | brk => exact z.elim
    | cont => exact z.elim

/-- __init__(self, f): self.f = f -/
def spI1 (K : PySem.W.Frag) (C : Addr) (f : Str) : Sp := fun vs H Q _ => ∃ (a : Addr) (v : V), vs = [.ref a, v] ∧ H a = some (exo a C none) ∧
  ∀ d, H d = none → d ≠ a → Q .non (upd (upd H d (exd d [(f, v)])) a (exo a C (some d)))
/-- __init__(self, f, g): both stored -/
def spI2 (K : PySem.W.Frag) (C : Addr) (f g : Str) : Sp := fun vs H Q _ => ∃ (a : Addr) (v w : V), vs = [.ref a, v, w] ∧ H a = some (exo a C none) ∧
  ∀ d, H d = none → d ≠ a → Q .non (upd (upd (upd H d (exd d [(f, v)])) a (exo a C (some d))) d (exd d [(g, w), (f, v)]))
/-- what the written part says of such a class and its __init__ -/
structure Xc (K : PySem.W.Frag) (mg : Str → Option Value) (ca : Str → Addr) (cn : Str) (fI : Addr) : Prop where
  ox : OexC K (ca cn)
  xf : XfC K (ca cn)
  ini : PySem.W.findIn K (.ref (ca cn)) "__init__" = some (some (.ref fI))
  tf : PySem.W.typeIn K (.ref fI) = some (.type "function")
  gm : mg cn = some (.ref (ca cn))
  em : PySem.W.exmOne K (.ref (ca cn)) (.ref (ca cn)) = some true
section
variable {P : Program} {w : World} {K : PySem.W.Frag} {mg : Str → Option Value} {base : Heap} {CX : CXT}
theorem init1_ok {cn qual f : Str} {st : Stmt} {fI : Addr} {fd : FuncData} {ca : Str → Addr} {p1 p2 p3 p4 : Pos} (T : Xc K mg ca cn fI) (F : Fun K "__init__" qual st fI fd)
    (hb : defBody st = [.Assign [.Attribute (.Name "self" p1) f p2] (.Name f p3) p4]) (S : FnScope ["self", f] ["self", f] (defScope st)) (hno : PySem.W.findIn K (.ref (ca cn)) f = some none)
    (v1 : Vis (defScope st) "self") (v2 : Vis (defScope st) f) (d1 : (f == ("__debug__" : Str)) = false) (d2 : (f == ("__classdict__" : Str)) = false)
    (hsw : ∀ env : Env, env.scope = defScope st → swapsWith (.Name f p3) (some (.Attribute (.Name "self" p1) f p2)) p4.line env = pure false) :
    FnOk P w K mg base CX 1 fI fd ["self", f] (spI1 K (ca cn) f) := by
  obtain ⟨oc, od, kV, doc, pm, an, cdv, ct, osl, rfl, lk, hcd⟩ := F.ex
  refine fn_of lk hcd S (fun vs H Q E ⟨a, v, e, _⟩ => by rw [e]; rfl) fun A outer s H vs Q E hr ⟨a, v, e, ha, q⟩ => ?_
  subst e
  rw [hb]
  refine ⟨_, pss_one (ps_ost (pe_var (i := 0) rfl v1) (pe_var (i := 1) rfl v2 d1 d2) (hsw _ rfl)), ?_⟩
  exact ⟨v, rfl, .ref a, rfl, a, ca cn, rfl, T.ox, hno, .inl ⟨ha, fun dx h1 h2 => q dx h1 h2⟩⟩
theorem init2_ok {cn qual f g : Str} {st : Stmt} {fI : Addr} {fd : FuncData} {ca : Str → Addr} {p1 p2 p3 p4 q1 q2 q3 q4 : Pos} (T : Xc K mg ca cn fI) (F : Fun K "__init__" qual st fI fd)
    (hb : defBody st = [.Assign [.Attribute (.Name "self" p1) f p2] (.Name f p3) p4, .Assign [.Attribute (.Name "self" q1) g q2] (.Name g q3) q4]) (S : FnScope ["self", f, g] ["self", f, g] (defScope st))
    (hno : PySem.W.findIn K (.ref (ca cn)) f = some none) (hno2 : PySem.W.findIn K (.ref (ca cn)) g = some none)
    (v1 : Vis (defScope st) "self") (v2 : Vis (defScope st) f) (v3 : Vis (defScope st) g) (d1 : (f == ("__debug__" : Str)) = false) (d2 : (f == ("__classdict__" : Str)) = false) (d3 : (g == ("__debug__" : Str)) = false) (d4 : (g == ("__classdict__" : Str)) = false)
    (hsw : ∀ env : Env, env.scope = defScope st → swapsWith (.Name f p3) (some (.Attribute (.Name "self" p1) f p2)) p4.line env = pure false)
    (hsw2 : ∀ env : Env, env.scope = defScope st → swapsWith (.Name g q3) (some (.Attribute (.Name "self" q1) g q2)) q4.line env = pure false) :
    FnOk P w K mg base CX 1 fI fd ["self", f, g] (spI2 K (ca cn) f g) := by
  obtain ⟨oc, od, kV, doc, pm, an, cdv, ct, osl, rfl, lk, hcd⟩ := F.ex
  refine fn_of lk hcd S (fun vs H Q E ⟨a, v, w, e, _⟩ => by rw [e]; rfl) fun A outer s H vs Q E hr ⟨a, v, w, e, ha, q⟩ => ?_
  subst e
  rw [hb]
  refine ⟨_, pss_cons (ps_ost (pe_var (i := 0) rfl v1) (pe_var (i := 1) rfl v2 d1 d2) (hsw _ rfl)) (pss_one (ps_ost (pe_var (i := 0) rfl v1) (pe_var (i := 2) rfl v3 d3 d4) (hsw2 _ rfl))), ?_⟩
  refine ⟨v, rfl, .ref a, rfl, a, ca cn, rfl, T.ox, hno, .inl ⟨ha, fun dx h1 h2 => ?_⟩⟩
  refine ⟨w, rfl, .ref a, rfl, a, ca cn, rfl, T.ox, hno2, .inr ⟨dx, [(f, v)], upd_same, ?_, (by show 1 ≤ 900; decide), q dx h1 h2⟩⟩
  rw [upd_ne h2, upd_same]
end

section
variable {α β γ δ ρ : Type} {S S1 : List Sl} {N : β → List Sl} {L : γ → List Sl} {R : ρ → RV} {enc : α → D} {a b c e : Expr} {es : List Expr} {pos p : Pos} {k j : Nat} {rest body : List Stmt}
theorem pass_no {hx : L2N.Takes X J.W} : Passes (L2N.CX X.prog X.w) X fun _ _ _ => False := L2N.passes_call hx fun _ _ _ _ h => h.elim
/-- raise X(e), X's __init__ stores one field -/
theorem ss_raise1 {m : M α} {cn f : Str} {fI : Addr} {fd : FuncData} (C : CxD X J k) (hk : 2 ≤ k) (T : Xc X.K X.mg J.ca cn fI) (F1 : FnOk X.prog X.w X.K X.mg X.base (L2N.CX X.prog X.w) 1 fI fd ["self", f] (spI1 X.K (J.ca cn) f)) (hb : Binds X.K fd ["self", f] [])
    (ha : PA X [e] (tCons (tE X J S enc m) tNil)) (hw : Wk S J.Sx) (hg : Gl X cn := by rfl) (hdb : (cn == ("__debug__" : Str)) = false := by decide) (he : starEach (e :: []) X.env = (false, eval e X.env) :: starEach [] X.env := by rfl) (hpl : (backTo pos (starEach [] X.env)).any (·.1) = false := by rfl) {pos2 : Pos} :
    DSs X J S (.Raise (some (.Call (.Name cn p) [e] [] pos)) none pos2 :: rest) N L R (mb m fun z => .er ⟨cn, [(f, enc z)]⟩) :=
  pss_imp (pss_cons (L2N.ps_raise C.calm C.tk (mkN T.ox T.ini T.tf F1 (C.room.mono hk) hb (pass_no (hx := C.tk)) hg T.gm ha hdb he hpl)) pss_never) fun Dn σ H ⟨G, own, ok, fin⟩ =>
    E_bind (FinS.wish hw) ok ⟨fin, ok⟩ fun z v G1 H1 g ok1 d r => by
      refine ⟨(by decide : 1 ≤ 1000), fun a hn => ⟨a, v, rfl, upd_same, fun dx h1 h2 => ?_⟩⟩
      have hd1 : H1 dx = none := by rw [upd_ne h2] at h1; exact h1
      refine ⟨rfl, dx, [(f, v)], upd_same, by rw [upd_ne h2, upd_same], hd1, ?_⟩
      refine r.1 (.ref (J.ca cn)) (some dx) σ G1 _ own (Same.refl _) ?_ ⟨rfl, .inr ⟨dx, _, rfl, upd_same, .cons d .nil⟩⟩
      refine (ok1.grow ⟨Same.refl _, fun b o z => ?_, fun b o z => ?_, fun _ _ => rfl⟩).weak hw
      · have n1 : b ≠ a := ne_of_none z hn
        have n2 : b ≠ dx := ne_of_none z hd1
        rw [upd_ne n2, del_ne n1, upd_ne n1, upd_ne n2, upd_ne n1]; exact z
      · have z' := ok1.gh b o z
        have n1 : b ≠ a := ne_of_none z' hn
        have n2 : b ≠ dx := ne_of_none z' hd1
        rw [upd_ne n2, del_ne n1, upd_ne n1, upd_ne n2, upd_ne n1]; exact z'
theorem ss_raise2 {enb : β → D} {m : M α} {n : M β} {cn f g : Str} {fI : Addr} {fd : FuncData} {N : δ → List Sl} (C : CxD X J k) (hk : 2 ≤ k) (T : Xc X.K X.mg J.ca cn fI) (F1 : FnOk X.prog X.w X.K X.mg X.base (L2N.CX X.prog X.w) 1 fI fd ["self", f, g] (spI2 X.K (J.ca cn) f g)) (hb : Binds X.K fd ["self", f, g] [])
    (ha : PA X [e, c] (tCons (tE X J S enc m) (tCons (tE X J S enb n) tNil))) (hw : Wk S J.Sx) (hg : Gl X cn := by rfl) (hdb : (cn == ("__debug__" : Str)) = false := by decide) (he : starEach (e :: [c]) X.env = (false, eval e X.env) :: starEach [c] X.env := by rfl) (hpl : (backTo pos (starEach [c] X.env)).any (·.1) = false := by rfl) {pos2 : Pos} :
    DSs X J S (.Raise (some (.Call (.Name cn p) [e, c] [] pos)) none pos2 :: rest) N L R (mb m fun z => mb n fun y => .er ⟨cn, [(g, enb y), (f, enc z)]⟩) :=
  pss_imp (pss_cons (L2N.ps_raise C.calm C.tk (mkN T.ox T.ini T.tf F1 (C.room.mono hk) hb (pass_no (hx := C.tk)) hg T.gm ha hdb he hpl)) pss_never) fun Dn σ H ⟨G, own, ok, fin⟩ =>
    E_bind (FinS.wish hw) ok ⟨fin, ok⟩ fun z v G0 H0 g0 ok0 d0 r0 => E_bind (FinS.wish hw) ok0 r0 fun y w G1 H1 g1 ok1 d1 r => by
      refine ⟨(by decide : 2 ≤ 1000), fun a hn => ⟨a, v, w, rfl, upd_same, fun dx h1 h2 => ?_⟩⟩
      have hd1 : H1 dx = none := by rw [upd_ne h2] at h1; exact h1
      refine ⟨rfl, dx, [(g, w), (f, v)], by rw [upd_ne (Ne.symm h2), upd_same], upd_same, hd1, ?_⟩
      refine r.1 (.ref (J.ca cn)) (some dx) σ G1 _ own (Same.refl _) ?_ ⟨rfl, .inr ⟨dx, _, rfl, upd_same, .cons d1 (.cons (d0.mono g1.g) .nil)⟩⟩
      refine (ok1.grow ⟨Same.refl _, fun b o z => ?_, fun b o z => ?_, fun _ _ => rfl⟩).weak hw
      · have n1 : b ≠ a := ne_of_none z hn
        have n2 : b ≠ dx := ne_of_none z hd1
        rw [upd_ne n2, del_ne n1, upd_ne n2, upd_ne n1, upd_ne n2, upd_ne n1]; exact z
      · have z' := ok1.gh b o z
        have n1 : b ≠ a := ne_of_none z' hn
        have n2 : b ≠ dx := ne_of_none z' hd1
        rw [upd_ne n2, del_ne n1, upd_ne n2, upd_ne n1, upd_ne n2, upd_ne n1]; exact z'

/-! ### try: .. except X as n: .. -/
def noEr {α : Type} (m : M α) : M α := match m with
  | .ok x => .ok x
  | _ => .no
@[simp] theorem noEr_ok {α : Type} (x : α) : noEr (.ok x) = .ok x := rfl
def tryM {β γ ρ : Type} (cn : Str) (m : M (Out β γ ρ)) (f : List (Str × D) → M (Out β γ ρ)) : M (Out β γ ρ) := match m with
  | .er x => if x.cls = cn then noEr (f x.args) else .no
  | .ok o => .ok o
  | .no => .no
@[simp] theorem tryM_ok {β γ ρ : Type} (cn : Str) (o : Out β γ ρ) (f : List (Str × D) → M (Out β γ ρ)) : tryM cn (.ok o) f = .ok o := rfl
theorem tryM_er {β γ ρ : Type} (cn : Str) (a : List (Str × D)) (f : List (Str × D) → M (Out β γ ρ)) : tryM cn (.er ⟨cn, a⟩) f = noEr (f a) := if_pos rfl
abbrev js (J : Jx) : Jx := ⟨J.ca, fun _ _ _ _ => False, J.B, []⟩
theorem Ok.unset {K : PySem.W.Frag} {ca : Str → Addr} {B : Bs} {G H : Hp} {own : Addr → Option Nat} {σ : L2.St} {i : Nat} (k : Ok K ca B G H own σ S) (hi : S[i]? = some .un) : Ok K ca B G H own (σ.set i none) S := by
  refine ⟨by simpa using k.ln, k.gh, k.g0, k.h0, k.gn, k.ow, fun j s e => ?_⟩
  by_cases hj : j = i
  · subst hj
    rw [hi] at e; cases e; trivial
  · rw [List.getElem?_set_ne (Ne.symm hj)]; exact k.sl j s e
theorem Ok.setX {K : PySem.W.Frag} {ca : Str → Addr} {B : Bs} {G H : Hp} {own : Addr → Option Nat} {σ : L2.St} {i : Nat} {a : Addr} {d : Option Addr} {fs : List (Str × D)} (k : Ok K ca B G H own σ S) (h : fs = [] ∨ ∃ dd vs, d = some dd ∧ H dd = some (.xd vs) ∧ DenF K ca G vs fs) :
    Ok K ca B G H own (σ.set i (some (.ref a))) (S.set i (.xc a d fs)) := by
  refine ⟨by simpa using k.ln, k.gh, k.g0, k.h0, k.gn, k.ow, fun j s e => ?_⟩
  by_cases hj : j = i
  · subst hj
    have hl : j < S.length := by
      by_cases hl : j < S.length
      · exact hl
      · rw [List.getElem?_eq_none (by simpa using hl)] at e; cases e
    rw [List.getElem?_set_self hl] at e
    cases e
    exact ⟨List.getElem?_set_self (Nat.lt_of_lt_of_le hl k.ln), h⟩
  · rw [List.getElem?_set_ne (Ne.symm hj)] at e
    rw [List.getElem?_set_ne (Ne.symm hj)]
    exact k.sl j s e
/-- within a suite: the exception that is handled -/
structure CxS (X : Cx) (J : Jx) (k : Nat) : Prop where
  hot : L2H.HotC X
  room : L2H.RoomH k X.A
  tk : L2N.Takes X J.W
  nd : X.N.Nodup
theorem ss_try {cn n : Str} {i : Nat} {b₀ : Stmt} {suite : List Stmt} {np pos' : Pos} {mB : M (Out β γ ρ)} {f : List (Str × D) → M (Out β γ ρ)} (C : CxD X J k) (hs : X.stack = X.env :: X.outer) (hf : X.env.frame = some X.env.locals) (hln : X.env.kindOf n = some .local) (hgl : Gl X cn) (hgm : X.mg cn = some (.ref (J.ca cn)))
    (hem : PySem.W.exmOne X.K (.ref (J.ca cn)) (.ref (J.ca cn)) = some true) (hi : X.N[i]? = some n) (hd : (cn == ("__debug__" : Str)) = false)
    (hb : ∀ (W : WX) (pn : List (Addr × Obj)) (xe : Value → Shared → Prop), CxD (X.tr pn xe) ⟨J.ca, W, J.B, S1⟩ k → DSs (X.tr pn xe) ⟨J.ca, W, J.B, S1⟩ S body N L R mB)
    (hsu : ∀ (a : Addr) (oe : Obj) (cls : Value) (d : Option Addr) (pn : List (Addr × Obj)) (args : List (Str × D)), CxS (X.suite a ((a, oe) :: pn)) (js J) k → Zc cls d oe → (∃ vs, oe.data = .fields vs) → cls = .ref (J.ca cn) → DSs (X.suite a ((a, oe) :: pn)) (js J) (S1.set i (.xc a d args)) (b₀ :: suite) N L R (f args))
    (hN : ∀ b, (N b)[i]? = some .un) (hL : ∀ b, (L b)[i]? = some .un) :
    DS X J S (.Try body [.ExceptHandler (some (.Name cn np)) (some n) (b₀ :: suite) pos'] [] [] pos) N L R (tryM cn mB f) := by
  have hA : ∀ (a : Addr) (oe : Obj) (cls : Value) (d : Option Addr) (pn : List (Addr × Obj)), L2N.Zn cls d oe → (∃ vs, oe.data = .fields vs) → CxS (X.suite a ((a, oe) :: pn)) (js J) k := fun a oe cls d pn hz ⟨vs, hv⟩ =>
    ⟨⟨(a, oe), ⟨rfl, vs, hv, hz.2.2 vs hv⟩, List.mem_cons_self⟩, L2H.roomH_mark C.room _, takesN, C.nd⟩
  refine ps_imp (L2N.ps_try_as (Wout := J.W) hs hf C.nd hi hln ⟨hgl, hd, .inl hgm⟩ C.tk
    (tb := fun W => tS X ⟨J.ca, W, J.B, S1⟩ S N L R mB)
    (ts := fun a cls d Dn σ H => ∃ args, cls = .ref (J.ca cn) ∧ tS X (js J) (S1.set i (.xc a d args)) N L R (f args) Dn σ H)
    (fun W pn xe tk po => hb W pn xe ⟨C.calm, tk, po, C.room, C.nd⟩) (fun a oe cls d pn hz hv => ?_)) fun Dn σ H ⟨G, own, ok, fin⟩ => ?_
  · refine ⟨fun pins s σ H D I ⟨args, hc, q⟩ => ?_⟩
    exact (hsu a oe cls d pn args (hA a oe cls d pn hz hv) hz.zc hv hc).run pins s σ H D I q
  · refine ⟨G, own, ok, ?_⟩
    cases hmB : mB with
    | ok o =>
      rw [hmB] at fin
      cases o with
      | nx b => exact fin
      | rt r => exact fin
      | bk c => exact fin
      | ct c => exact fin
    | no => rw [hmB] at fin; exact fin
    | er x =>
      rw [hmB] at fin
      intro cls d σ' G' H' own' sg ok' ra
      by_cases hx : x.cls = cn
      · have fin2 : FinS X J N L R Dn G (noEr (f x.args)) := by
          unfold tryM at fin
          simp only [if_pos hx] at fin
          exact fin
        obtain ⟨hc, hd2⟩ := ra
        rw [hx] at hc
        refine ⟨true, by rw [hc]; exact hem, fun _ a hn => ⟨x.args, hc, G', own', ok'.setX hd2, ?_⟩, fun z => by cases z⟩
        have fin3 := fin2.mono sg
        cases hfa : f x.args with
        | no => rw [hfa] at fin3; exact fin3.elim
        | er y => rw [hfa] at fin3; exact fin3.elim
        | ok o =>
          rw [hfa] at fin3
          cases o with
          | nx b => exact fun σ2 G2 H2 own2 s2 k2 => fin3 _ G2 H2 own2 s2 (Ok.unset k2 (hN b))
          | rt r => exact fin3
          | bk c => exact fun σ2 G2 H2 own2 s2 k2 => fin3 _ G2 H2 own2 s2 (Ok.unset k2 (hL c))
          | ct c => exact fun σ2 G2 H2 own2 s2 k2 => fin3 _ G2 H2 own2 s2 (Ok.unset k2 (hL c))
      · unfold tryM at fin
        simp only [if_neg hx] at fin
        exact fin.elim
/-! ### within a suite -/
def fldI (a : List (Str × D)) (f : Str) : M Int := match a.lookup f with
  | some (.int i) => .ok i
  | _ => .no
def fldB (a : List (Str × D)) (f : Str) : M Bool := match a.lookup f with
  | some (.bl i) => .ok i
  | _ => .no
/-- e.f of the caught exception -/
theorem e_xf {α : Type} {enc : α → D} {m : M α} {f x : Str} {a C : Addr} {oe : Obj} {cls : Value} {d : Option Addr} {pn : List (Addr × Obj)} {args : List (Str × D)} {i : Nat} (T : XfC X.K C) (hno : PySem.W.findIn X.K (.ref C) f = some none)
    (hz : Zc cls d oe) (hf : ∃ vs, oe.data = .fields vs) (hc : cls = .ref C) (hs : S[i]? = some (.xc a d args)) (hp : PE (X.suite a ((a, oe) :: pn)) (.Name x p) (tVar i)) (hm : ∀ z, m = .ok z → args.lookup f = some (enc z)) (hne : ∀ y, m ≠ .er y)
    (hb : attributeBase (.Name x p) f X.env (eval (.Name x p) X.env) = eval (.Name x p) X.env := by rfl) :
    DE (X.suite a ((a, oe) :: pn)) J S (.Attribute (.Name x p) f pos) enc m :=
  pe_imp (pe_xf T hno hz hf hp hb) fun σ H Q ⟨G, own, ok, fin⟩ => by
    obtain ⟨h1, h2⟩ := ok.sl i _ hs
    cases m with
    | no => exact fin.elim
    | er y => exact absurd rfl (hne y)
    | ok z =>
      have hl := hm z rfl
      rcases h2 with h2 | ⟨dd, vs, h2, h3, h4⟩
      · rw [h2] at hl; cases hl
      · obtain ⟨v, e1, e2⟩ := h4.lookup hl
        exact ⟨.ref a, h1, rfl, hc, dd, vs, v, h2, h3, e1, fin v G H (Grow.refl ok.gh) e2⟩
theorem fldI_ok {args : List (Str × D)} {f : Str} : (∀ z, fldI args f = .ok z → args.lookup f = some (eI z)) ∧ ∀ y, fldI args f ≠ .er y := by
  unfold fldI
  constructor
  · intro z h
    split at h
    · cases h; assumption
    · cases h
  · intro y
    split <;> exact fun h => by cases h
theorem fldB_ok {args : List (Str × D)} {f : Str} : (∀ z, fldB args f = .ok z → args.lookup f = some (eB z)) ∧ ∀ y, fldB args f ≠ .er y := by
  unfold fldB
  constructor
  · intro z h
    split at h
    · cases h; assumption
    · cases h
  · intro y
    split <;> exact fun h => by cases h
/-- a def called there -/
theorem e_callH {α ρ : Type} {encs : α → List Sl} {enr : ρ → D} {f : Addr} {fd : FuncData} {ps : List Str} {x : Str} {code : α → M ρ} {n : M α} (C : CxS X J k) (hj : j ≤ k) (F : L2H.FnH X.prog X.w X.K X.mg X.base (L2N.CX X.prog X.w) j f fd ps (spE X.K J.ca encs enr code)) (hm : X.mg x = some (.ref f)) (hk : PySem.W.keepIn X.K (.ref f) = true) (hb : Binds X.K fd ps [])
    (h : DX X J S (e :: es) encs n) (hg : Gl X x := by rfl) (hdb : (x == ("__debug__" : Str)) = false := by decide) (he : starEach (e :: es) X.env = (false, eval e X.env) :: starEach es X.env := by rfl) (hpl : (backTo pos (starEach es X.env)).any (·.1) = false := by rfl) :
    DE X J S (.Call (.Name x p) (e :: es) [] pos) enr (mb n code) :=
  pe_imp (L2H.pe_callH F (C.room.mono hj) C.hot hg hm hk hb (fun σ => L2N.passAt C.tk σ) h hdb he hpl) fun σ H Q ⟨G, own, ok, fin⟩ => X_bind Fin.wish ok fin fun z vs G1 H1 g1 ok1 d r => by
    show spE X.K J.ca encs enr code vs H1 Q _
    refine ⟨z, G1, ok1.gh, d, ?_⟩
    cases hc : code z with
    | ok y => rw [hc] at r; show spR X.K J.ca G1 H1 (mb (code z) _) Q _; rw [hc]; exact fun v G' H' g dv => r v G' H' g dv
    | er q => rw [hc] at r; show spR X.K J.ca G1 H1 (mb (code z) _) Q _; rw [hc]; exact fun cls dd G' H' g ra => r cls dd G' H' g ra
    | no => rw [hc] at r; exact r.elim
/-- .. by its body -/
theorem fn_okH {P : Program} {w : World} {K : PySem.W.Frag} {mg : Str → Option Value} {base : Heap} {x qual : Str} {st : Stmt} {f : Addr} {fd : FuncData} {Ns ps : List Str} {k n : Nat} {ca : Str → Addr} {α β γ ρ : Type} {encA : α → List Sl} {R : ρ → RV} {Nx : α → β → List Sl} {L : α → γ → List Sl} {code : α → M (Out β γ ρ)}
    (F : Fun K x qual st f fd) (S : FnScope Ns ps (defScope st)) (hl : ∀ a, (encA a).length = ps.length) (hn : ps.length + n = Ns.length)
    (hb : ∀ (cdv : Value) (A : Around) (outer : List Env) (s : Shared) (G H : Hp) (E : XK) (a : α) (q : Addr × Obj), CxS (L2H.cxH (L2N.CX P w) P w K mg base Ns qual (defScope st) f cdv A outer s H E q) (jx ca E G H) k →
      DSs (L2H.cxH (L2N.CX P w) P w K mg base Ns qual (defScope st) f cdv A outer s H E q) (jx ca E G H) (encA a ++ List.replicate n .un) (defBody st) (Nx a) (L a) R (code a)) :
    L2H.FnH P w K mg base (L2N.CX P w) (k + 1) f fd ps (spF K ca encA fun a => fnO R (code a)) := by
  obtain ⟨oc, od, kV, doc, pm, an, cdv, ct, osl, rfl, lk, hcd⟩ := F.ex
  refine L2H.fn_ofH lk hcd S (fun vs H Q E ⟨a, G, e, d, r⟩ => by rw [d.length, hl a]) fun A outer s H vs Q E q hot hr ⟨a, G, e, d, r⟩ => ?_
  have C : CxS (L2H.cxH (L2N.CX P w) P w K mg base Ns qual (defScope st) f cdv A outer s H E q) (jx ca E G H) k :=
    ⟨⟨q, hot, List.mem_singleton.mpr rfl⟩, hr, L2N.takes_of rfl rfl rfl rfl, S.nd⟩
  refine ⟨_, hb cdv A outer s G H E a q C, G, _, ok_start e d (by rw [hl a]; omega), ?_⟩
  have r' : spR K ca G H (fnO R (code a)) Q E := r
  cases hc : code a with
  | ok o =>
    rw [hc] at r'
    cases o with
    | nx b => exact fun σ' G' H' own' sg ok' => r' .non G' H' ok'.base .non
    | rt q =>
      have r2 : spR K ca G H (.ok (R q)) Q E := r'
      show RtK _ _ (R q) Q
      cases hR : R q with
      | fr d => rw [hR] at r2; exact r2
      | ow ds => rw [hR] at r2; exact fun p vs G' H' g h1 h2 h3 h4 => r2 p vs G' H' g h1 h2 h3 h4
      | op ds d => rw [hR] at r2; exact fun t p u vs G' H' g h1 h2 h3 h4 h5 h6 => r2 t p u vs G' H' g h1 h2 h3 h4 h5 h6
    | bk c => exact r'.elim
    | ct c => exact r'.elim
  | er x =>
    rw [hc] at r'
    exact fun cls d σ' G' H' own' sg ok' ra => r' cls d G' H' ok'.base ra
  | no => rw [hc] at r'; exact r'.elim
end
end DL

namespace DL
open PySem PySem.Spec PyProof.Rows L2
variable {X : Cx} {J : Jx}

/-! ### objects under construction -/
def putD (f : Str) (d : D) : List (Str × D) → List (Str × D)
  | [] => [(f, d)]
  | (g, x) :: r => if g = f then (g, d) :: r else (g, x) :: putD f d r
theorem DenF.put {K : PySem.W.Frag} {ca : Str → Addr} {H : Hp} {f : Str} {v : V} {d : D} (h : Den K ca H v d) : ∀ {vs : List (Str × V)} {ds : List (Str × D)}, DenF K ca H vs ds → DenF K ca H (putF f v vs) (putD f d ds)
  | _, _, .nil => .cons h .nil
  | _, _, .cons (f := g) a t => by
    unfold putF putD
    by_cases e : g = f
    · rw [if_pos e, if_pos e]; exact .cons h t
    · rw [if_neg e, if_neg e]; exact .cons a (DenF.put h t)
theorem DenF.length {K : PySem.W.Frag} {ca : Str → Addr} {H : Hp} : ∀ {vs : List (Str × V)} {ds : List (Str × D)}, DenF K ca H vs ds → vs.length = ds.length
  | _, _, .nil => rfl
  | _, _, .cons _ t => congrArg (· + 1) (DenF.length t)
section
variable {α β γ δ ρ : Type} {S : List Sl} {N : β → List Sl} {L : γ → List Sl} {R : ρ → RV} {enc : α → D} {a b c e : Expr} {es : List Expr} {pos p : Pos} {k j : Nat} {rest body : List Stmt}
/-- self.f = e -/
theorem ss_sfld {m : M α} {f : α → M (Out β γ ρ)} {x fl : Str} {Cn : Str} {fs : List (Str × D)} {px p2 : Pos} {q : Addr} (i : Nat) (hs : S[i]? = some (.nw q Cn fs)) (hp : PE X (.Name x px) (tVar i)) (cl : Cls X.K (J.ca Cn)) (na : NoAttr X.K (J.ca Cn) fl) (hl : fs.length < 1000) (he : DE X J S e enc m)
    (hr : ∀ z, DSs X J (S.set i (.nw q Cn (putD fl (enc z) fs))) rest N L R (f z)) (hw : Wk S J.Sx) (hsw : swapsWith e (some (.Attribute (.Name x px) fl p2)) pos.line X.env = pure false := by rfl) :
    DSs X J S (.Assign [.Attribute (.Name x px) fl p2] e pos :: rest) N L R (mb m f) :=
  pss_imp (pss_cons (ps_fld hp he hsw) (pss_ex hr)) fun Dn σ H ⟨G, own, ok, fin⟩ =>
    E_bind (FinS.wish hw) ok ⟨fin, ok⟩ fun z v G1 H1 g1 ok1 d r => by
      obtain ⟨h1, h2, dx, vs, h3, h4⟩ := ok1.sl i _ hs
      have e1 := h4.length
      exact ⟨.ref q, h1, q, J.ca Cn, dx, vs, rfl, h3, cl, na, by rw [e1]; exact hl, z, G1, own, ok1.mutN h3 h2 (h4.put d) h1, r.1⟩
/-- self.f -/
theorem e_sfld {z : α} {x fl : Str} {Cn : Str} {fs : List (Str × D)} {px : Pos} {q : Addr} (i : Nat) (hs : S[i]? = some (.nw q Cn fs)) (hp : PE X (.Name x px) (tVar i)) (cl : Cls X.K (J.ca Cn)) (na : NoAttr X.K (J.ca Cn) fl) (hl : fs.lookup fl = some (enc z))
    (hb : attributeBase (.Name x px) fl X.env (eval (.Name x px) X.env) = eval (.Name x px) X.env := by rfl) : DE X J S (.Attribute (.Name x px) fl pos) enc (.ok z) :=
  pe_imp (pe_fld hp hb) fun σ H Q ⟨G, own, ok, fin⟩ => by
    obtain ⟨h1, h2, dx, vs, h3, h4⟩ := ok.sl i _ hs
    obtain ⟨v, e1, e2⟩ := h4.lookup hl
    exact ⟨.ref q, h1, q, J.ca Cn, dx, vs, v, rfl, h3, cl, na, e1, fin v G H (Grow.refl ok.gh) e2⟩
end
/-- what __init__ answers: the fields behind it -/
def iniO {β γ ρ : Type} (F : β → List (Str × D)) (n : M (Out β γ ρ)) : M (List (Str × D)) := match n with
  | .ok (.nx b) => .ok (F b)
  | .ok _ => .no
  | .er x => .er x
  | .no => .no
def hid (H : Hp) (p : Addr) : Hp := fun b => if b = p then none else H b
theorem hid_ne {H : Hp} {p b : Addr} (h : b ≠ p) : hid H p b = H b := if_neg h
theorem hid_same {H : Hp} {p : Addr} : hid H p p = none := if_pos rfl
/-- __init__(self, ..): at the arguments encA a -/
def spN (K : PySem.W.Frag) (ca : Str → Addr) (Cn : Str) {α : Type} (encA : α → List Sl) (code : α → M (List (Str × D))) : Sp := fun vs H Q E => ∃ (a : α) (p dx : Addr) (ws : List V) (G : Hp), vs = .ref p :: ws ∧ H p = some (.ins (ca Cn) dx []) ∧ G p = none ∧ Same G H ∧ ArgL K ca G (hid H p) ws (encA a) ∧
  match code a with
  | .ok fs => ∀ G' H' gs dy, Same G G' → Same G' H' → (∀ b, b ≠ p → H b ≠ none → H' b = H b) → (∀ b, H b ≠ none → G' b = G b) → H' p = some (.ins (ca Cn) dy gs) → DenF K ca G' gs fs → Q .non H'
  | .er x => ∀ cls d G' H', Same G G' → Same G' H' → (∀ b, b ≠ p → H b ≠ none → H' b = H b) → (∀ b, b ≠ p → H b ≠ none → G' b = G b) → Raised K ca x G' cls d H' → E cls d H'
  | .no => False
/-- nothing is said of the slots at a raise; the object at p is one's own -/
abbrev jn (ca : Str → Addr) (E : XK) (G H : Hp) (p : Addr) : Jx := ⟨ca, fun cls d _ H' => E cls d H', ⟨G, hid H p⟩, []⟩
theorem ok_startN {K : PySem.W.Frag} {ca : Str → Addr} {G H : Hp} {N : List Str} {p dx : Addr} {Cn : Str} {vs : List V} {ss : List Sl} {n : Nat} (e : Same G H) (h : ArgL K ca G (hid H p) vs ss) (hp : H p = some (.ins (ca Cn) dx [])) (hg : G p = none) (hn : 1 + ss.length + n ≤ N.length) :
    Ok K ca ⟨G, hid H p⟩ G H (fun b => if b = p then some 0 else none) (L2.start N (.ref p :: vs)) (.nw p Cn [] :: (ss ++ List.replicate n .un)) := by
  have hl := h.length
  refine ⟨by simp [L2.start]; omega, e, Same.refl _, fun b o z => ?_, fun _ _ => rfl, fun b i z => ?_, fun i s q => ?_⟩
  · have z' : hid H p b = some o := z
    unfold hid at z'
    split at z'
    · cases z'
    · exact z'
  · split at z
    · rename_i hb
      subst hb
      exact ⟨hid_same, hg, by rw [hp]; exact fun y => by cases y⟩
    · cases z
  · cases i with
    | zero =>
      cases q
      exact ⟨start_get rfl, by simp, dx, [], hp, .nil⟩
    | succ i =>
      have q' : (ss ++ List.replicate n .un)[i]? = some s := by simpa using q
      by_cases hi : i < ss.length
      · rw [List.getElem?_append_left hi] at q'
        obtain ⟨v, h1, h2⟩ := h.get (H0 := hid H p) (fun _ _ z => z) (own := fun b => if b = p then some 0 else none) q'
        rw [start_get (show (V.ref p :: vs)[i + 1]? = some v by simpa using h1)]
        exact h2 (i + 1) H
      · rw [List.getElem?_append_right (by omega), List.getElem?_replicate] at q'
        split at q'
        · cases q'; trivial
        · cases q'
section
variable {P : Program} {w : World} {K : PySem.W.Frag} {mg : Str → Option Value} {base : Heap}
theorem fn_init {x qual : Str} {params : Arguments} {bd : List Stmt} {sc : Scope} {dvs : List V} {kws : List (Str × V)} {f : Addr} {fd : FuncData} {Ns ps : List Str} {k n : Nat} {ca : Str → Addr} {Cn : Str} {α β γ ρ : Type} {encA : α → List Sl} {R : ρ → RV} {Nx : Addr → α → β → List Sl} {L : α → γ → List Sl} {code : α → M (Out β γ ρ)} {Fl : β → List (Str × D)}
    (F : FunD K x qual params bd sc dvs kws f fd) (S : FnScope Ns ps sc) (hl : ∀ a, 1 + (encA a).length = ps.length) (hn : ps.length + n = Ns.length) (hN : ∀ p a b, (Nx p a b)[0]? = some (.nw p Cn (Fl b)))
    (hb : ∀ (cdv : Value) (A : Around) (outer : List Env) (s : Shared) (G H : Hp) (E : XK) (a : α) (p : Addr), CxD (cxOf (L2N.CX P w) P w K mg base Ns qual sc f cdv A outer s H E) (jn ca E G H p) k →
      DSs (cxOf (L2N.CX P w) P w K mg base Ns qual sc f cdv A outer s H E) (jn ca E G H p) (.nw p Cn [] :: (encA a ++ List.replicate n .un)) bd (Nx p a) (L a) R (code a)) :
    FnOk P w K mg base (L2N.CX P w) (k + 1) f fd ps (spN K ca Cn encA fun a => iniO Fl (code a)) := by
  obtain ⟨oc, od, dV, kV, doc, pm, an, cdv, ct, osl, rfl, lk, hcd, _, _⟩ := F.ex
  refine fn_of lk hcd S (fun vs H Q E ⟨a, p, dx, ws, G, e, _, _, _, d, _⟩ => by rw [e, List.length_cons, d.length, ← hl a]; omega) fun A outer s H vs Q E hr ⟨a, p, dx, ws, G, e, hp, hg, sg, d, r⟩ => ?_
  subst e
  have C : CxD (cxOf (L2N.CX P w) P w K mg base Ns qual sc f cdv A outer s H E) (jn ca E G H p) k :=
    ⟨rfl, L2N.takes_of rfl rfl rfl rfl, passes_of rfl, hr, S.nd⟩
  refine ⟨_, hb cdv A outer s G H E a p C, G, _, ok_startN sg d hp hg (by have := hl a; omega), ?_⟩
  have same : ∀ {G' H' : Hp} {own' : Addr → Option Nat} {σ' : L2.St} {S' : List Sl}, Ok K ca ⟨G, hid H p⟩ G' H' own' σ' S' → (∀ b, b ≠ p → H b ≠ none → H' b = H b) ∧ (∀ b, H b ≠ none → b ≠ p → G' b = G b) := fun {G' H' own' σ' S'} k' => by
    refine ⟨fun b hbp hbn => ?_, fun b hbn hbp => ?_⟩
    · cases q : H b with
      | none => exact absurd q hbn
      | some o => rw [k'.h0 b o (by show hid H p b = _; rw [hid_ne hbp]; exact q)]
    · exact k'.gn b (by show hid H p b ≠ none; rw [hid_ne hbp]; exact hbn)
  dsimp only at r
  cases hc : code a with
  | ok o =>
    rw [hc] at r
    cases o with
    | nx b =>
      intro σ' G' H' own' sg' ok'
      obtain ⟨h1, h2, dy, vs, h3, h4⟩ := ok'.sl 0 _ (hN p a b)
      obtain ⟨e1, e2⟩ := same ok'
      refine r G' H' vs dy sg' ok'.gh e1 (fun z hz => ?_) h3 h4
      by_cases hzp : z = p
      · subst hzp
        rw [hg]; exact (ok'.ow z 0 h2).2.1
      · exact e2 z hz hzp
    | rt q => exact r.elim
    | bk c => exact r.elim
    | ct c => exact r.elim
  | er x =>
    rw [hc] at r
    intro cls d σ' G' H' own' sg' ok' ra
    obtain ⟨e1, e2⟩ := same ok'
    exact r cls d G' H' sg' ok'.gh e1 (fun z h1 h2 => e2 z h2 h1) ra
  | no => rw [hc] at r; exact r.elim
end

/-! ### an object is made: C(e, .., k = v, ..) -/
section
variable {α β γ δ ρ κ : Type} {S : List Sl} {enc : α → D} {a b c e : Expr} {es : List Expr} {pos p kpos : Pos} {k j : Nat} {kws : List Keyword}
def DK (X : Cx) (J : Jx) (S : List Sl) (kws : List Keyword) (encs : β → List Sl) (n : M β) : Prop := PK X kws (tXr X J S encs n)
theorem pk_imp {kws : List Keyword} {t t' : TA} (h : PK X kws t) (i : ∀ σ H Q, t' σ H Q → t σ H Q) : PK X kws t' := ⟨fun ps pins s σ H Q I q => h.run ps pins s σ H Q I (i σ H Q q)⟩
theorem k_nil : DK X J S [] xN (.ok ()) := pk_imp pk_nil fun σ H Q ⟨G, own, ok, fin⟩ => fin [] G H (Grow.refl ok.gh) .nil
theorem k_cons {nm : Option Str} {encs : β → List Sl} {m : M α} {n : M β} (h : DE X J S a enc m) (h2 : DK X J S kws encs n) : DK X J S (⟨nm, a, kpos⟩ :: kws) (xC enc encs) (mb m fun x => mb n fun y => .ok (x, y)) :=
  pk_imp (pk_cons h h2) fun σ H Q ⟨G, own, ok, fin⟩ => E_bind FinX.wish ok fin fun x v G1 H1 g1 ok1 d r => X_bind FinX.wish ok1 r fun y vs G2 H2 g2 ok2 d2 r2 =>
    r2 _ G2 H2 (Grow.refl ok2.gh) (.cons (d.mono g2.g) d2)
theorem e_make {f : Addr} {fd : FuncData} {ps ks : List Str} {x Cn : Str} {n : Nat} {gV : List V → List V → List V} {encA : κ → List Sl} {code : κ → M ρ} {flds : ρ → List (Str × D)} {encs : α → List Sl} {enk : β → List Sl} {ma : M α} {mk : M β} {mkA : α → β → κ}
    (C : CxD X J k) (hj : j + 1 ≤ k) (hW : ∀ cls d σ τ H, J.W cls d σ H → J.W cls d τ H) (Mm : Mk X.K (J.ca Cn) f) (F : FnOk X.prog X.w X.K X.mg X.base (L2N.CX X.prog X.w) j f fd ps (spN X.K J.ca Cn encA fun a => mb (code a) fun r => .ok (flds r))) (hm : X.mg x = some (.ref (J.ca Cn))) (hb : ∃ g, KBn X.K fd ps (n + 1) ks g gV)
    (ha : DX X J S (e :: es) encs ma) (hk : DK X J S kws enk mk) (hn : ∀ z, (encs z).length = n) (hn2 : ∀ z, (enk z).length = ks.length)
    (hA : ∀ (G H : Hp) (v : V) (vs zs : List V) (z : α) (y : β), ArgL X.K J.ca G H vs (encs z) → ArgL X.K J.ca G H zs (enk y) → ∃ ws, gV (v :: vs) zs = v :: ws ∧ ArgL X.K J.ca G H ws (encA (mkA z y)))
    (hg : Gl X x := by rfl) (hall : (backToKw pos (keywordEach kws X.env)).all (·.1.isSome) = true := by rfl) (hks : (backToKw pos (keywordEach kws X.env)).filterMap (·.1) = ks := by rfl)
    (hdb : (x == ("__debug__" : Str)) = false := by decide) (he : starEach (e :: es) X.env = (false, eval e X.env) :: starEach es X.env := by rfl)
    (hpl : ((backTo pos (starEach (e :: es) X.env)).any (·.1) || (backToKw pos (keywordEach kws X.env)).any (·.1.isNone)) = false := by rfl) :
    DE X J S (.Call (.Name x p) (e :: es) kws pos) (fun r => .obj Cn (flds r)) (mb ma fun z => mb mk fun y => code (mkA z y)) := by
  obtain ⟨g, hb⟩ := hb
  refine ⟨fun pins s σ H Q I ⟨G, own, ok, fin⟩ => ?_⟩
  refine wpAny_Call_Name_kw (ld_glob I hg hm ?_ hdb)
  have ta := X_bind (X := X) (J := J) (f := fun z => mb mk fun y => code (mkA z y)) (Fin.wish (enc := fun r => D.obj Cn (flds r)) (Q := Q)) ok fin
    (P := fun vs H1 => ∃ z G1, OkX X J G1 H1 own σ S ∧ ArgL X.K J.ca G1 H1 vs (encs z) ∧ Fin X J (fun r => D.obj Cn (flds r)) (mb mk fun y => code (mkA z y)) σ G1 H1 Q)
    fun z vs G1 H1 g1 ok1 d r => ⟨z, G1, ok1, d, r⟩
  refine PySem.W.callWith_KW (h₀ := X.base) I.ok.mod.kin Mm.kp hall (thn (ha.run pos pins s σ H _ I ta) fun us s1 ⟨vs, H1, I1, r1, z, G1, ok1, d1, fin1⟩ => ?_) hpl he
  have tk := X_bind (X := X) (J := J) (f := fun y => code (mkA z y)) (Fin.wish (enc := fun r => D.obj Cn (flds r)) (Q := Q)) ok1 fin1
    (P := fun zs H2 => ∃ y G2, OkX X J G2 H2 own σ S ∧ Grow G1 H1 G2 H2 ∧ ArgL X.K J.ca G2 H2 zs (enk y) ∧ Fin X J (fun r => D.obj Cn (flds r)) (code (mkA z y)) σ G2 H2 Q)
    fun y zs G2 H2 g2 ok2 d r => ⟨y, G2, ok2, g2, d, r⟩
  refine thn (hk.run pos pins s1 σ H1 _ I1 tk) fun ws s2 ⟨zs, H2, I2, rz, y, G2, ok2, g2, d2, fin2⟩ => ⟨I2.kIn, ?_⟩
  rw [hks]
  have dv := d1.mono g2.g g2.h
  refine run_makeN (E := fun cls d H => J.W cls d σ H) Mm F (C.room.mono hj) hb (L2N.passes_call C.tk fun cls d τ H' h => hW cls d σ τ H' h) I2 r1 rz (by rw [dv.length, hn]) (by rw [d2.length, hn2]) fun a dx h1 h2 hne => ?_
  obtain ⟨ws', e1, e2⟩ := hA G2 H2 (.ref a) vs zs z y dv d2
  have sg2 : Same G2 (upd (upd H2 dx (.own a)) a (.ins (J.ca Cn) dx [])) := fun b o q => by
    have q' := ok2.gh b o q
    rw [upd_ne (ne_of_none q' h1), upd_ne (ne_of_none q' h2)]; exact q'
  have hG : G2 a = none := Same.free ok2.gh h1
  refine ⟨mkA z y, a, dx, ws', G2, e1, upd_same, hG, sg2, e2.mono (Same.refl _) (fun b o q => by
    have n1 : b ≠ a := fun z => by rw [z, h1] at q; cases q
    rw [hid_ne n1, upd_ne n1, upd_ne fun z => by rw [z, h2] at q; cases q]; exact q), ?_⟩
  have old : ∀ b, H2 b ≠ none → b ≠ a ∧ (upd (upd H2 dx (.own a)) a (.ins (J.ca Cn) dx [])) b = H2 b := fun b hbn => by
    have n1 : b ≠ a := fun z => hbn (z ▸ h1)
    have n2 : b ≠ dx := fun z => hbn (z ▸ h2)
    exact ⟨n1, by rw [upd_ne n1, upd_ne n2]⟩
  cases hc : code (mkA z y) with
  | no => rw [hc] at fin2; exact fin2.elim
  | er q =>
    rw [hc] at fin2
    simp only [hc, mb_er]
    intro cls d G' H' s1 s2 o1 o2 ra
    refine fin2 cls d G' H' ⟨s1, fun b o q => ?_, s2, fun b hbn => ?_⟩ ra
    · obtain ⟨n1, n2⟩ := old b (by rw [q]; exact fun z => by cases z)
      rw [o1 b n1 (by rw [n2, q]; exact fun z => by cases z), n2]; exact q
    · obtain ⟨n1, n2⟩ := old b hbn
      exact o2 b n1 (by rw [n2]; exact hbn)
  | ok r =>
    rw [hc] at fin2
    simp only [hc, mb_ok]
    intro G' H' gs dy s1 s2 o1 o2 ha' hf
    have hGa : G' a = none := by rw [o2 a (by rw [upd_same]; exact fun z => by cases z)]; exact hG
    refine ⟨trivial, fin2 _ (upd G' a (.ins (J.ca Cn) dy gs)) H' ⟨s1.trans (same_upd hGa), fun b o q => ?_, fun b o q => ?_, fun b hbn => ?_⟩ (.obj upd_same (hf.mono (same_upd hGa)))⟩
    · obtain ⟨n1, n2⟩ := old b (by rw [q]; exact fun z => by cases z)
      rw [o1 b n1 (by rw [n2, q]; exact fun z => by cases z), n2]; exact q
    · by_cases hb' : b = a
      · subst hb'; rw [upd_same] at q; cases q; exact ha'
      · rw [upd_ne hb'] at q; exact s2 b o q
    · obtain ⟨n1, n2⟩ := old b hbn
      rw [upd_ne n1]; exact o2 b (by rw [n2]; exact hbn)
end
end DL

namespace DL
open PySem PySem.Spec PyProof.Rows L2
variable {X : Cx} {J : Jx}
section
variable {α β γ δ ρ : Type} {S : List Sl} {enc : α → D} {enr : ρ → D} {a b c e o : Expr} {es : List Expr} {pos p apos : Pos} {k j : Nat} {f : Addr} {fd : FuncData} {ps : List Str}
/-- len by an own __len__, as it answers -/
def lenO (n : Int) : M Int := if 0 ≤ n ∧ n < 2 ^ 63 then .ok n else .no
/-- one argument, an object's own method's receiver -/
abbrev aO (e : α → D) : α → List Sl := fun z => [.fr (e z)]
/-- len(o) by the class's own __len__ -/
theorem e_lenO {m : M α} {Cn : Str} {fs : α → List (Str × D)} {code : α → M Int} (C : CxD X J k) (hj : j + 1 ≤ k) (hm : X.mg "len" = none) (cl : Cls X.K (J.ca Cn)) (hs : PySem.W.findIn X.K (.ref (J.ca Cn)) "__len__" = some (some (.ref f))) (hf : PySem.W.isFn X.K (.ref f) = true)
    (F : FnOk X.prog X.w X.K X.mg X.base (L2N.CX X.prog X.w) j f fd ["self"] (spE X.K J.ca (xC enc xN) eI fun a => code a.1)) (hb : Binds X.K fd ["self"] []) (hd : ∀ z, enc z = .obj Cn (fs z)) (hne : ∀ z y, code z ≠ .er y)
    (h : PA X [a] (tCons (tE X J S enc m) tNil)) (hg : Gl X "len" := by rfl)
    (he : starEach (a :: []) X.env = (false, eval a X.env) :: starEach [] X.env := by rfl) (hpl : (backTo pos (starEach [] X.env)).any (·.1) = false := by rfl) :
    DE X J S (.Call (.Name "len" p) [a] [] pos) eI (mb m fun z => mb (code z) lenO) := by
  have hc : CallR X (.builtin "len") (fun xs H Q => ∃ q dx gs, xs = [.ref q] ∧ H q = some (.ins (J.ca Cn) dx gs) ∧ spE X.K J.ca (xC enc xN) eI (fun a => code a.1) [.ref q] H (fun v H' => ∃ n : Int, v = .int n ∧ (0 ≤ n ∧ n < 2 ^ 63) ∧ Q (.int n) H') fun _ _ _ => False) := by
    intro pins s σ H xs us Q I r ⟨q, dx, gs, ex, hq, sp⟩
    subst ex
    obtain rfl := Vals.ref1 r
    obtain ⟨mA, om, _⟩ := ins_get I.hok hq
    obtain ⟨od, I1, _⟩ := om.look
    obtain ⟨mF, fr⟩ := I.fr
    refine PySem.W.len_K fr I.ok.mod.kin I1 hs hf ?_
    have hl : ([Value.ref q] ++ []).length = (["self"] : List Str).length := rfl
    refine wpAny_call (codeAny_mono (F.run X.A.in1 X.stack s H ⟨[.ref q], []⟩ [.ref q] [.ref q] _ (fun _ _ _ => False) ((C.room.mono hj).in1) I.env0.in1 (hb s [.ref q] I.kIn hl) (.cons rfl .nil) sp) fun res t z => ?_)
    cases res with
    | error er => exact (pass_no (hx := C.tk) pins σ H s er t I z)
    | ok fl =>
      cases fl with
      | ret u =>
        obtain ⟨v, H', I', rv, n, ev, hn, q2⟩ := I.after z
        subst ev
        obtain ⟨tk, rfl⟩ := rv
        exact ⟨hn, .int n, H', I'.tok _, ⟨_, rfl⟩, q2⟩
      | next => exact z.elim
      | brk => exact z.elim
      | cont => exact z.elim
  refine pe_imp (pe_callB hc hg hm PySem.boot_len h (by decide) (by decide) he hpl) fun σ H Q ⟨G, own, ok, fin⟩ => E_bind Fin.wish ok fin fun z v G1 H1 g1 ok1 d r => ?_
  have d' := d
  rw [hd z] at d
  cases d with
  | obj hq hF =>
    refine ⟨_, _, _, rfl, ok1.gh _ _ hq, (z, ()), G1, ok1.gh, .cons d' .nil, ?_⟩
    show spR X.K J.ca G1 H1 (mb (code z) _) _ _
    cases hcz : code z with
    | no => rw [hcz] at r; exact r.elim
    | er y => exact absurd hcz (hne z y)
    | ok n =>
      rw [hcz] at r
      intro v G' H' g dv
      cases dv
      by_cases hn : 0 ≤ n ∧ n < 2 ^ 63
      · have r' : Fin X J eI (if 0 ≤ n ∧ n < 2 ^ 63 then M.ok n else .no) σ G1 H1 Q := r
        rw [if_pos hn] at r'
        exact ⟨n, rfl, hn, r' _ G' H' g (.int n)⟩
      · have r' : Fin X J eI (if 0 ≤ n ∧ n < 2 ^ 63 then M.ok n else .no) σ G1 H1 Q := r
        rw [if_neg hn] at r'
        exact r'.elim
/-- o.m(e, ..) -/
theorem e_meth {pl : Sem Bool} {β : Type} {m : M α} {n : M β} {Cn : Str} {ml : Str} {fs : α → List (Str × D)} {encs : β → List Sl} {code : α × β → M ρ} (C : CxD X J k) (hj : j ≤ k) (he : DE X J S o enc m) (cl : Cls X.K (J.ca Cn)) (hm : Meth X.K (J.ca Cn) ml f)
    (F : FnOk X.prog X.w X.K X.mg X.base (L2N.CX X.prog X.w) j f fd ps (spE X.K J.ca (xC enc encs) enr code)) (hb : Binds X.K fd ps []) (hd : ∀ z, enc z = .obj Cn (fs z) ∧ (fs z).lookup ml = none) (ha : DX X J S (e :: es) encs n)
    (hnl : ∀ {vs : List (Str × V)} {ds : List (Str × D)} {H : Hp}, DenF X.K J.ca H vs ds → ds.lookup ml = none → vs.lookup ml = none)
    (hst : starEach (e :: es) X.env = (false, eval e X.env) :: starEach es X.env := by rfl) (hpl : (backTo pos (starEach es X.env)).any (·.1) = false := by rfl)
    (ht : eval (.Call (.Attribute o ml apos) (e :: es) [] pos) X.env = (do
      let ov ← eval o X.env
      standAt apos.atName
      let (g, first) ← holding [ov] (getMethod ov ml pl)
      callWith pos g first (backTo pos (starEach (e :: es) X.env)) (backToKw pos (keywordEach [] X.env))) := by rfl) :
    DE X J S (.Call (.Attribute o ml apos) (e :: es) [] pos) enr (mb m fun z => mb n fun y => code (z, y)) := by
  refine ⟨fun pins s σ H Q I ⟨G, own, ok, fin⟩ => ?_⟩
  have t1 := E_bind (X := X) (J := J) (enc := enc) (f := fun z => mb n fun y => code (z, y)) (Fin.wish (enc := enr) (Q := Q)) ok fin
    (P := fun v H1 => ∃ z G1, OkX X J G1 H1 own σ S ∧ Den X.K J.ca G1 v (enc z) ∧ Fin X J enr (mb n fun y => code (z, y)) σ G1 H1 Q)
    fun z v G1 H1 g1 ok1 d r => ⟨z, G1, ok1, d, r⟩
  refine PySem.W.methodCall_KW (pl := pl) (thn (he.run pins s σ H _ I t1) fun u s1 ⟨x, H1, I1, rx, z, G1, ok1, d, r⟩ => ?_) ht
  have d' := d
  rw [(hd z).1] at d
  cases d with
  | obj hq hF =>
    obtain rfl : u = _ := rx
    refine getmeth_ok I1 (ok1.gh _ _ hq) cl hm (hnl hF (hd z).2) ?_
    have t2 := X_bind (X := X) (J := J) (f := fun y => code (z, y)) (Fin.wish (enc := enr) (Q := Q)) ok1 r
      (P := fun vs H2 => ∃ y G2, OkX X J G2 H2 own σ S ∧ Grow G1 H1 G2 H2 ∧ ArgL X.K J.ca G2 H2 vs (encs y) ∧ Fin X J enr (code (z, y)) σ G2 H2 Q)
      fun y vs G2 H2 g2 ok2 d r => ⟨y, G2, ok2, g2, d, r⟩
    refine PySem.W.callWith_K (first := [.ref _]) (h₀ := X.base) I.ok.mod.kin hm.kp (thn (ha.run pos pins s1 σ H1 _ I1 t2) fun us s2 ⟨vs, H2, I2, rv, y, G2, ok2, g2, d2, r2⟩ => ⟨I2.kIn, ?_⟩) hst hpl
    refine run_fnSD (us := .ref _ :: us) (vs := .ref _ :: vs) (E := fun σ => WE J.W σ) (F.mono hj) C.room hb .nil (L2N.passAt C.tk σ) I2 (.cons rfl rv) ?_
    rw [List.append_nil]
    refine ⟨(z, y), G2, ok2.gh, .cons (d'.mono g2.g) d2, ?_⟩
    show spR X.K J.ca G2 H2 (mb (code (z, y)) _) _ _
    cases hcz : code (z, y) with
    | no => rw [hcz] at r2; exact r2.elim
    | er q => rw [hcz] at r2; exact fun cls dd G' H' g ra => r2 cls dd G' H' g ra
    | ok n => rw [hcz] at r2; exact fun v G' H' g dv => r2 v G' H' g dv
/-- o.m() -/
theorem e_meth0 {pl : Sem Bool} {m : M α} {Cn : Str} {ml : Str} {fs : α → List (Str × D)} {code : α → M ρ} (C : CxD X J k) (hj : j ≤ k) (he : DE X J S o enc m) (cl : Cls X.K (J.ca Cn)) (hm : Meth X.K (J.ca Cn) ml f)
    (F : FnOk X.prog X.w X.K X.mg X.base (L2N.CX X.prog X.w) j f fd ps (spE X.K J.ca (xC enc xN) enr fun a => code a.1)) (hb : Binds X.K fd ps []) (hd : ∀ z, enc z = .obj Cn (fs z) ∧ (fs z).lookup ml = none)
    (hnl : ∀ {vs : List (Str × V)} {ds : List (Str × D)} {H : Hp}, DenF X.K J.ca H vs ds → ds.lookup ml = none → vs.lookup ml = none)
    (ht : eval (.Call (.Attribute o ml apos) [] [] pos) X.env = (do
      let ov ← eval o X.env
      standAt apos.atName
      let (g, first) ← holding [ov] (getMethod ov ml pl)
      callWith pos g first (backTo pos (starEach [] X.env)) (backToKw pos (keywordEach [] X.env))) := by rfl) :
    DE X J S (.Call (.Attribute o ml apos) [] [] pos) enr (mb m code) := by
  refine ⟨fun pins s σ H Q I ⟨G, own, ok, fin⟩ => ?_⟩
  have t1 := E_bind (X := X) (J := J) (enc := enc) (f := code) (Fin.wish (enc := enr) (Q := Q)) ok fin
    (P := fun v H1 => ∃ z G1, OkX X J G1 H1 own σ S ∧ Den X.K J.ca G1 v (enc z) ∧ Fin X J enr (code z) σ G1 H1 Q)
    fun z v G1 H1 g1 ok1 d r => ⟨z, G1, ok1, d, r⟩
  refine PySem.W.methodCall_KW (pl := pl) (thn (he.run pins s σ H _ I t1) fun u s1 ⟨x, H1, I1, rx, z, G1, ok1, d, r⟩ => ?_) ht
  have d' := d
  rw [(hd z).1] at d
  cases d with
  | obj hq hF =>
    obtain rfl : u = _ := rx
    refine getmeth_ok I1 (ok1.gh _ _ hq) cl hm (hnl hF (hd z).2) ?_
    refine PySem.W.callWith_K0 (first := [.ref _]) I1.kIn hm.kp ?_
    refine run_fnSD (us := [.ref _]) (vs := [.ref _]) (E := fun σ => WE J.W σ) (F.mono hj) C.room hb .nil (L2N.passAt C.tk σ) I1 (.cons rfl .nil) ?_
    rw [List.append_nil]
    refine ⟨(z, ()), G1, ok1.gh, .cons d' .nil, ?_⟩
    show spR X.K J.ca G1 H1 (mb (code z) _) _ _
    cases hcz : code z with
    | no => rw [hcz] at r; exact r.elim
    | er q => rw [hcz] at r; exact fun cls dd G' H' g ra => r cls dd G' H' g ra
    | ok n => rw [hcz] at r; exact fun v G' H' g dv => r v G' H' g dv
theorem denF_none {K : PySem.W.Frag} {ca : Str → Addr} {H : Hp} {ml : Str} : ∀ {vs : List (Str × V)} {ds : List (Str × D)}, DenF K ca H vs ds → ds.lookup ml = none → vs.lookup ml = none
  | _, _, .nil, _ => rfl
  | _, _, .cons (f := g) h t, e => by
    simp only [List.lookup] at e ⊢
    cases q : (ml == g) with
    | true => rw [q] at e; cases e
    | false => rw [q] at e; exact denF_none t e
end
/-- what isinstance asks of a class of one's own -/
structure IsC (K : PySem.W.Frag) (C : Addr) : Prop where
  cl : Cls K C
  cc : PySem.W.findIn K (.ref C) "__class__" = some (some (.builtin "object.__class__"))
  sp : PySem.W.specialIn K (.builtin "object.__class__") "__get__" = some (some (.builtin "getset_descriptor.__get__"))
  tk : PySem.W.takesIn K (.builtin "object.__class__") = some true
  mr : PySem.W.mroIn K C (.type "object") = some true
theorem ty_obj {α : Type} {enc : α → D} {Cn : Str} {fs : α → List (Str × D)} {u : Value} {r : Bool} (I : IsC X.K (J.ca Cn)) (hd : ∀ z, enc z = .obj Cn (fs z)) (h : PySem.W.kitOne X.K (.ref (J.ca Cn)) u = some r) :
    ∀ (z : α) v G H own, Same G H → DenB X J G H own v (enc z) → ∃ t', TyX X.K H v t' ∧ PySem.W.kitOne X.K t' u = some ((fun _ => r) z) :=
  fun z v G H own sg d => by
    have d' := d.den (fun ds => by rw [hd z]; exact fun q => by cases q)
    rw [hd z] at d'
    cases d' with
    | obj hq hF => exact ⟨_, .base (.ins (sg _ _ hq) I.cl I.cc I.sp I.tk I.mr), h⟩
end DL

namespace DL
open PySem PySem.Spec PyProof.Rows L2
variable {X : Cx} {J : Jx}
section
variable {α β β' γ δ ρ : Type} {S S' : List Sl} {N : β → List Sl} {N' : β' → List Sl} {L : γ → List Sl} {R : ρ → RV} {enc : α → D} {a b c e : Expr} {es : List Expr} {pos p : Pos} {k j : Nat} {rest body : List Stmt}
/-! ### the generator's helpers -/
theorem ss_eq {n n' : M (Out β γ ρ)} (h : DSs X J S body N L R n) (e : n = n') : DSs X J S body N L R n' := e ▸ h
theorem ss_no : DSs X J S body N L R .no := ⟨fun pins s σ H D I ⟨G, own, ok, fin⟩ => fin.elim⟩
theorem s1_no {st : Stmt} : DS X J S st N L R .no := ⟨fun pins s σ H D I ⟨G, own, ok, fin⟩ => fin.elim⟩
theorem wk_n {S : List Sl} : Wk S [] := Wk.nil
theorem wk_u {s : Sl} (h : Wk S S') : Wk (s :: S) (.un :: S') := ⟨Nat.succ_le_succ h.1, fun i t e => by
  cases i with
  | zero => cases e; exact .inl rfl
  | succ i => exact (h.2 i t (by simpa using e)).imp id fun q => by simpa using q⟩
theorem wk_e {s : Sl} (h : Wk S S') : Wk (s :: S) (s :: S') := ⟨Nat.succ_le_succ h.1, fun i t e => by
  cases i with
  | zero => exact .inr e
  | succ i => exact (h.2 i t (by simpa using e)).imp id fun q => by simpa using q⟩
theorem e_bl {k : Bool} {j : Nat} : DE X J S (.Constant (.bool k) j pos) eB (.ok k) := pe_imp pe_bl fun σ H Q ⟨G, own, ok, fin⟩ => fin _ G H (Grow.refl ok.gh) (.bl k)
theorem e_str {k : Str} {j : Nat} : DE X J S (.Constant (.str k) j pos) eS (.ok k) := pe_imp pe_str fun σ H Q ⟨G, own, ok, fin⟩ => fin _ G H (Grow.refl ok.gh) (.str k)
/-- pure parts -/
theorem w_andP {m n : M Bool} {q : Bool} (h : DT X J S a m) (h2 : DW X J S (.BoolOp .And (b :: es) pos) n) (hn : n = .ok q) : DW X J S (.BoolOp .And (a :: b :: es) pos) (mb m fun x => .ok (x && q)) := by
  have z := w_and h h2
  subst hn
  rwa [show (fun x : Bool => if x = true then M.ok q else .ok false) = fun x => .ok (x && q) by funext x; cases x <;> rfl] at z
theorem w_orP {m n : M Bool} {q : Bool} (h : DT X J S a m) (h2 : DW X J S (.BoolOp .Or (b :: es) pos) n) (hn : n = .ok q) : DW X J S (.BoolOp .Or (a :: b :: es) pos) (mb m fun x => .ok (x || q)) := by
  have z := w_or h h2
  subst hn
  rwa [show (fun x : Bool => if x = true then M.ok true else .ok q) = fun x => .ok (x || q) by funext x; cases x <;> rfl] at z
theorem e_andP {m n : M Bool} {q : Bool} (h : DE X J S a eB m) (h2 : DE X J S (.BoolOp .And (b :: es) pos) eB n) (hn : n = .ok q) : DE X J S (.BoolOp .And (a :: b :: es) pos) eB (mb m fun x => .ok (x && q)) := by
  have z := e_and h h2
  subst hn
  rwa [show (fun x : Bool => if x = true then M.ok q else .ok false) = fun x => .ok (x && q) by funext x; cases x <;> rfl] at z
theorem e_orP {m n : M Bool} {q : Bool} (h : DE X J S a eB m) (h2 : DE X J S (.BoolOp .Or (b :: es) pos) eB n) (hn : n = .ok q) : DE X J S (.BoolOp .Or (a :: b :: es) pos) eB (mb m fun x => .ok (x || q)) := by
  have z := e_or h h2
  subst hn
  rwa [show (fun x : Bool => if x = true then M.ok true else .ok q) = fun x => .ok (x || q) by funext x; cases x <;> rfl] at z
theorem e_ifP {mc : M Bool} {m n : M α} {x y : α} (hc : DT X J S c mc) (ha : DE X J S a enc m) (hb : DE X J S b enc n) (h1 : m = .ok x) (h2 : n = .ok y) : DE X J S (.IfExp c a b pos) enc (mb mc fun k => .ok (if k = true then x else y)) := by
  have z := e_ifE (pos := pos) hc ha hb
  subst h1 h2
  rwa [show (fun k : Bool => if k = true then M.ok x else .ok y) = fun k => .ok (if k = true then x else y) by funext k; cases k <;> rfl] at z
/-- both branches only store: the slots are joined -/
theorem ss_ifP {c : Expr} {A Bd : List Stmt} {mc : M Bool} {ma mb' : M (Out β γ ρ)} {x y : β} {f : β → M (Out β' γ ρ)} (N : β → List Sl) (hc : DT X J S c mc) (ha : DSs X J S A N L R ma) (hb : DSs X J S Bd N L R mb') (h1 : ma = .ok (.nx x)) (h2 : mb' = .ok (.nx y)) (hr : ∀ b, DSs X J (N b) rest N' L R (f b)) (hw : Wk S J.Sx) :
    DSs X J S (.If c A Bd pos :: rest) N' L R (mb mc fun k => f (if k = true then x else y)) := by
  have z := ss_if (pos := pos) hc ha hb hr hw
  subst h1 h2
  rwa [show (fun k : Bool => sq (if k = true then (M.ok (.nx x) : M (Out β γ ρ)) else .ok (.nx y)) f) = fun k => f (if k = true then x else y) by funext k; cases k <;> rfl] at z
theorem c_isF (hn : ∀ x, enc x ≠ .non) : CmpD X J .Is enc eU fun (_ : α) (_ : Unit) => false := ⟨_, op_isN, fun x y v u G H own Q _ d1 d2 q => by
  have hu : u = .non := by
    rcases d2 with d | ⟨_, _, _, _, h, _⟩
    · cases d; rfl
    · cases h
  refine ⟨hu, ?_⟩
  rw [non_of d1, show isNon (enc x) = false by
    have h := hn x
    cases q : enc x <;> first | rfl | exact absurd q h]
  exact q⟩
/-- a tuple of like items -/
theorem e_tupH {encs : β → List D} {n : M β} {g : β → List α} {kk : Nat} (h : DA X J S es encs n) (hg : ∀ z, encs z = (g z).map enc) (hl : ∀ z, (g z).length ≤ sizeLine) : DE X J S (.Tuple es kk pos) (eT enc) (mb n fun z => .ok (g z)) :=
  pe_imp (pe_tup h) fun σ H Q ⟨G, own, ok, fin⟩ => A_bind Fin.wish ok fin fun z vs G1 H1 g1 ok1 d r => by
    rw [hg z] at d
    have e := d.length
    rw [List.length_map] at e
    exact ⟨by rw [e]; exact hl z, fun q hq => r _ _ _ (Grow.alloc ok1.gh hq) (.tup (.of upd_same) (d.mono (same_upd (Same.free ok1.gh hq))))⟩
theorem small_line {n : Nat} (h : n ≤ 1000) : n ≤ sizeLine := Nat.le_trans h (by decide)
/-- the try, then the rest -/
theorem ss_tryC {m : M (Out β γ ρ)} {f : β → M (Out β' γ ρ)} {st : Stmt} (h : DS X J S st N L R m) (hr : ∀ b, DSs X J (N b) rest N' L R (f b)) : DSs X J S (st :: rest) N' L R (sq m f) := ss_cons h hr
end

/-! ### standings -/
structure BV where
  strengths : List Int
  lengths : List Int
  ring : Bool
  deriving DecidableEq
def fB (b : BV) : List (Str × D) := [("strengths", eT eI b.strengths), ("lengths", eT eI b.lengths), ("ring", eB b.ring)]
abbrev eBeads : BV → D := fun b => .obj "Beads" (fB b)
theorem fB_s (b : BV) : eBeads b = .obj "Beads" (fB b) ∧ (fB b).lookup ("strengths" : Str) = some (eT eI b.strengths) := ⟨rfl, by rfl⟩
theorem fB_l (b : BV) : eBeads b = .obj "Beads" (fB b) ∧ (fB b).lookup ("lengths" : Str) = some (eT eI b.lengths) := ⟨rfl, by rfl⟩
theorem fB_r (b : BV) : eBeads b = .obj "Beads" (fB b) ∧ (fB b).lookup ("ring" : Str) = some (eB b.ring) := ⟨rfl, by rfl⟩
theorem fB_no {f : Str} (h : (fB ⟨[], [], true⟩).lookup f = none) (b : BV) : eBeads b = .obj "Beads" (fB b) ∧ (fB b).lookup f = none := by
  refine ⟨rfl, ?_⟩
  simp only [fB, List.lookup] at h ⊢
  revert h
  cases (f == ("strengths" : Str)) <;> cases (f == ("lengths" : Str)) <;> cases (f == ("ring" : Str)) <;> simp
end DL

namespace DL
open PySem PySem.Spec PyProof.Rows L2
variable {X : Cx} {J : Jx}
section
variable {α β β' γ δ ρ : Type} {S S' : List Sl} {N : β → List Sl} {N' : β' → List Sl} {L : γ → List Sl} {R : ρ → RV} {enc : α → D} {enb : β → D} {a b c e : Expr} {es : List Expr} {pos p : Pos} {k j : Nat} {rest body : List Stmt}
/-! ### displays of a written length, unlike items -/
/-- a list, frozen at once -/
theorem e_lstG {encs : β → List D} {n : M β} {g : β → α} (h : DA X J S es encs n) (hg : ∀ z, enc (g z) = .lst (encs z)) (hl : ∀ z, (encs z).length ≤ sizeLine) : DE X J S (.List es pos) enc (mb n fun z => .ok (g z)) :=
  pe_imp (pe_lst h) fun σ H Q ⟨G, own, ok, fin⟩ => A_bind Fin.wish ok fin fun z vs G1 H1 g1 ok1 d r => by
    refine ⟨by rw [d.length]; exact hl z, fun q hq => r _ _ _ (Grow.alloc ok1.gh hq) ?_⟩
    rw [hg z]
    exact .lst upd_same (d.mono (same_upd (Same.free ok1.gh hq)))
theorem e_tupG {encs : β → List D} {n : M β} {g : β → α} {kk : Nat} (h : DA X J S es encs n) (hg : ∀ z, enc (g z) = .tup (encs z)) (hl : ∀ z, (encs z).length ≤ sizeLine) : DE X J S (.Tuple es kk pos) enc (mb n fun z => .ok (g z)) :=
  pe_imp (pe_tup h) fun σ H Q ⟨G, own, ok, fin⟩ => A_bind Fin.wish ok fin fun z vs G1 H1 g1 ok1 d r => by
    refine ⟨by rw [d.length]; exact hl z, fun q hq => r _ _ _ (Grow.alloc ok1.gh hq) ?_⟩
    rw [hg z]
    exact .tup (.of upd_same) (d.mono (same_upd (Same.free ok1.gh hq)))
/-- an item of a list of a written length, at a written place -/
theorem e_ixH {m : M α} {g : α → β} {ds : α → List D} (jj : Nat) {kk : Nat} {pk : Pos} (ha : DE X J S a enc m) (hd : ∀ x, enc x = .lst (ds x) ∧ (ds x)[jj]? = some (enb (g x))) : DE X J S (.Subscript a (.Constant (.int (jj : Int)) kk pk) pos) enb (mb m fun x => .ok (g x)) :=
  pe_imp (pe_ix ix_list ha pe_int (by intro _ _; rfl)) fun σ H Q ⟨G, own, ok, fin⟩ => E_bind Fin.wish ok fin fun x v G1 H1 g1 ok1 d r => by
    rw [(hd x).1] at d
    obtain ⟨p, vs, rfl, h1, h2⟩ := Den.lst' (X := X) d
    obtain ⟨w, e1, e2⟩ := h2.get (hd x).2
    exact ⟨p, vs, jj, w, rfl, rfl, SqL.of (ok1.gh _ _ h1), atI_nat e1, r w G1 H1 (Grow.refl ok1.gh) e2⟩
end
/-! ### named kinds of written lengths -/
section
variable {α β γ δ : Type}
def eP2 (e : α → D) (f : β → D) : α × β → D := fun p => .tup [e p.1, f p.2]
def eP3 (e : α → D) (f : β → D) (g : γ → D) : α × β × γ → D := fun p => .tup [e p.1, f p.2.1, g p.2.2]
def eP4 (e : α → D) (f : β → D) (g : γ → D) (h : δ → D) : α × β × γ × δ → D := fun p => .tup [e p.1, f p.2.1, g p.2.2.1, h p.2.2.2]
def eH2 (e : α → D) (f : β → D) : α × β → D := fun p => .lst [e p.1, f p.2]
def eH3 (e : α → D) (f : β → D) (g : γ → D) : α × β × γ → D := fun p => .lst [e p.1, f p.2.1, g p.2.2]
def eH4 (e : α → D) (f : β → D) (g : γ → D) (h : δ → D) : α × β × γ × δ → D := fun p => .lst [e p.1, f p.2.1, g p.2.2.1, h p.2.2.2]
end
section
variable {α β γ δ : Type} {S : List Sl} {enc : α → D} {enb : β → D} {a b c e : Expr} {es : List Expr} {pos p : Pos} {k j : Nat}
/-! ### coercions -/
theorem e_conv {m : M α} (f : α → β) (h : DE X J S a enc m) (hf : ∀ x, enc x = enb (f x)) : DE X J S a enb (mb m fun x => .ok (f x)) := e_enc h (by
  cases m with
  | ok y => exact ⟨fun z hz => by cases hz; exact ⟨y, rfl, hf y⟩, fun x hx => by cases hx⟩
  | er x => exact ⟨fun z hz => (by cases hz), fun y hy => (by cases hy; rfl)⟩
  | no => exact ⟨fun z hz => (by cases hz), fun y hy => (by cases hy)⟩)
theorem e_some {m : M α} (h : DE X J S a enc m) : DE X J S a (eO enc) (mb m fun x => .ok (some x)) := e_conv some h fun _ => rfl
theorem e_none {m : M Unit} (h : DE X J S a eU m) : DE X J S a (eO enc) (mb m fun _ => .ok none) := e_conv (fun _ => none) h fun _ => rfl
theorem e_pl2 {m : M (α × α)} (h : DE X J S a (eP2 enc enc) m) : DE X J S a (eT enc) (mb m fun x => .ok [x.1, x.2]) := e_conv (fun x => [x.1, x.2]) h fun _ => rfl
/-! ### optional ints -/
def vO : Option Int → V
  | none => .non
  | some i => .int i
theorem DenB.oint {G H : Hp} {own : Addr → Option Nat} {v : V} {i : Option Int} (d : DenB X J G H own v (eO eI i)) : v = vO i := by
  rcases d with d | ⟨_, _, _, _, h, _⟩
  · cases i <;> cases d <;> rfl
  · cases i <;> cases h
theorem dec_oint (x y : Option Int) : decide (vO x = vO y) = decide (x = y) := by
  cases x <;> cases y <;> simp [vO]
theorem c_eqO : CmpD X J .Eq (eO eI) (eO eI) fun i j => decide (i = j) := ⟨_, op_eq, fun x y v u G H own Q _ d1 d2 q => by
  rw [d1.oint, d2.oint]
  refine ⟨?_, ?_⟩
  · cases x <;> cases y <;> rfl
  · rwa [dec_oint]⟩
theorem c_neO : CmpD X J .NotEq (eO eI) (eO eI) fun i j => !decide (i = j) := ⟨_, op_ne, fun x y v u G H own Q _ d1 d2 q => by
  rw [d1.oint, d2.oint]
  refine ⟨?_, ?_⟩
  · cases x <;> cases y <;> rfl
  · rwa [dec_oint]⟩
theorem ty_oint {T : String} {r r0 : Bool} (h : kitB "int" T = some r) (h0 : kitB "NoneType" T = some r0) : ∀ (z : Option Int) v G H own, Same G H → DenB X J G H own v (eO eI z) → ∃ t', TyX X.K H v t' ∧ PySem.W.kitOne X.K t' (.type T) = some ((fun z => if z.isSome = true then r else r0) z) :=
  fun z v G H own sg d => by
    rw [d.oint]
    cases z with
    | none => exact ⟨_, .base .non, kit_ty h0⟩
    | some i => exact ⟨_, .base (.int i), kit_ty h⟩
theorem pd_P2 {pd : α → PyData} {n : Nat} {pe : β → PyData} {m : Nat} (h : PdE enc pd n) (h' : PdE enb pe m) : PdE (eP2 enc enb) (fun p => .tuple [pd p.1, pe p.2]) (max n m + 1) := by
  refine ⟨fun sg d => ?_, fun x => ?_, fun x => ?_, fun x y => ?_⟩
  · cases d with
    | tup q t =>
      cases t with
      | cons t1 t =>
        cases t with
        | cons t2 t => cases t; exact .tup (same_seqT sg q) (.cons (h.dp sg t1) (.cons (h'.dp sg t2) .nil))
  · show (PyData.canLayAll0 [pd x.1, pe x.2]) = true
    rw [PyData.canLayAll0, PyData.canLayAll0, h.lay, h'.lay]; rfl
  · simp only [PyData.depth, PyData.depthAll]
    have h1 := h.dep x.1
    have h2 := h'.dep x.2
    omega
  · rw [PyData.eqv, PyData.eqvAll, PyData.eqvAll, PyData.eqvAll, Bool.and_true, Bool.and_eq_true, h.eq, h'.eq]
    exact (Prod.ext_iff).symm
theorem pd_H2 {pd : α → PyData} {n : Nat} {pe : β → PyData} {m : Nat} (h : PdE enc pd n) (h' : PdE enb pe m) : PdE (eH2 enc enb) (fun p => .list [pd p.1, pe p.2]) (max n m + 1) := by
  refine ⟨fun sg d => ?_, fun x => ?_, fun x => ?_, fun x y => ?_⟩
  · cases d with
    | lst q t =>
      cases t with
      | cons t1 t =>
        cases t with
        | cons t2 t => cases t; exact .lst (SqL.of (sg _ _ q)) (.cons (h.dp sg t1) (.cons (h'.dp sg t2) .nil))
  · show (PyData.canLayAll0 [pd x.1, pe x.2]) = true
    rw [PyData.canLayAll0, PyData.canLayAll0, h.lay, h'.lay]; rfl
  · simp only [PyData.depth, PyData.depthAll]
    have h1 := h.dep x.1
    have h2 := h'.dep x.2
    omega
  · rw [PyData.eqv, PyData.eqvAll, PyData.eqvAll, PyData.eqvAll, Bool.and_true, Bool.and_eq_true, h.eq, h'.eq]
    exact (Prod.ext_iff).symm
end
/-! ### the law's end -/
def spLaw (K : PySem.W.Frag) : Sp := fun vs H Q _ => ∃ (a : Addr) (ns : List Int), vs = [.ref a] ∧ SqL K H a (ns.map V.int) ∧ ns.length ≤ 63 ∧ ∀ H', Q (.bl true) H'
theorem law_end {P : Program} {w : World} {K : PySem.W.Frag} {mg : Str → Option Value} {base : Heap} {CX : CXT} {k : Nat} {f : Addr} {fd : FuncData} {ps : List Str} {ca : Str → Addr} {g : List Int → M Bool}
    (F : FnOk P w K mg base CX k f fd ps (spE K ca (xC eScr xN) eB fun a => g a.1)) (h : ∀ ns : List Int, ns.length ≤ 63 → g ns = .ok true) : FnOk P w K mg base CX k f fd ps (spLaw K) :=
  F.imp fun vs H Q E ⟨a, ns, e, hs, hl, q⟩ => by
    subst e
    refine ⟨(ns, ()), H, Same.refl _, .cons (.scr hs (DenL.of_ints ns)) .nil, ?_⟩
    show spR K ca H H (mb (g ns) _) Q E
    rw [h ns hl]
    exact fun v G' H' _ d => by cases d; exact q H'
end DL

namespace DL
open PySem PySem.Spec PyProof.Rows L2
variable {X : Cx} {J : Jx}
section
variable {α β β' γ δ ρ : Type} {S S' : List Sl} {N : β → List Sl} {N' : β' → List Sl} {L : γ → List Sl} {R : ρ → RV} {enc : α → D} {enb : β → D} {a b c e : Expr} {es : List Expr} {pos p : Pos} {k j : Nat} {rest body : List Stmt}
/-! ### tests whose answer is known -/
theorem ss_ifLastF {c : Expr} {a b : List Stmt} {mb' : M (Out β γ ρ)} (hc : DT X J S c (.ok false)) (hb : DSs X J S b N L R mb') (hw : Wk S J.Sx) : DSs X J S [.If c a b pos] N L R mb' := ss_ifL (pos := pos) hc ss_no hb hw
theorem ss_ifLastT {c : Expr} {a b : List Stmt} {ma : M (Out β γ ρ)} (hc : DT X J S c (.ok true)) (ha : DSs X J S a N L R ma) (hw : Wk S J.Sx) : DSs X J S [.If c a b pos] N L R ma := ss_ifL (pos := pos) hc ha ss_no hw
theorem ss_ifJF {c : Expr} {a b : List Stmt} {mb' : M (Out β γ ρ)} {f : β → M (Out β' γ ρ)} (hc : DT X J S c (.ok false)) (hb : DSs X J S b N L R mb') (hr : ∀ b, DSs X J (N b) rest N' L R (f b)) (hw : Wk S J.Sx) : DSs X J S (.If c a b pos :: rest) N' L R (sq mb' f) := ss_if (pos := pos) hc ss_no hb hr hw
theorem ss_ifJT {c : Expr} {a b : List Stmt} {ma : M (Out β γ ρ)} {f : β → M (Out β' γ ρ)} (hc : DT X J S c (.ok true)) (ha : DSs X J S a N L R ma) (hr : ∀ b, DSs X J (N b) rest N' L R (f b)) (hw : Wk S J.Sx) : DSs X J S (.If c a b pos :: rest) N' L R (sq ma f) := ss_if (pos := pos) hc ha ss_no hr hw
theorem c_notF (hn : ∀ x, enc x ≠ .non) : CmpD X J .IsNot enc eU fun (_ : α) (_ : Unit) => true := ⟨_, op_notN, fun x y v u G H own Q _ d1 d2 q => by
  have hu : u = .non := by
    rcases d2 with d | ⟨_, _, _, _, h, _⟩
    · cases d; rfl
    · cases h
  refine ⟨hu, ?_⟩
  rw [non_of d1, show isNon (enc x) = false by
    have h := hn x
    cases q : enc x <;> first | rfl | exact absurd q h]
  exact q⟩
end
/-! ### the codes, made plain -/
theorem mbk {α β : Type} (x : α) (f : α → M β) : mb (.ok x) f = f x := Eq.trans (mb_ok x f) (Eq.symm (Eq.refl (f x)))
theorem mba {α β γ : Type} (m : M α) (f : α → M β) (g : β → M γ) : mb (mb m f) g = mb m fun x => mb (f x) g := mb_assoc m f g
theorem sqk {β β' γ ρ : Type} (b : β) (f : β → M (Out β' γ ρ)) : sq (.ok (.nx b)) f = f b := Eq.trans (sq_nx b f) (Eq.symm (Eq.refl (f b)))
theorem sqa {α β β' γ ρ : Type} (m : M α) (g : α → M (Out β γ ρ)) (f : β → M (Out β' γ ρ)) : sq (mb m g) f = mb m fun x => sq (g x) f := sq_mb m g f
/-! ### defs -/
theorem fnV_er' {β γ ρ : Type} {d : M ρ} (hd : ∀ y, d ≠ .er y) {n : M (Out β γ ρ)} {y : Ex} (h : fnV d n = .er y) : n = .er y := by
  cases n with
  | ok o =>
    cases o with
    | nx b => exact absurd h (hd y)
    | rt r => cases h
    | bk c => cases h
    | ct c => cases h
  | er x => cases h; rfl
  | no => cases h
theorem fn_EH {α β γ ρ : Type} {enr : ρ → D} {k : Nat} {f : Addr} {fd : FuncData} {ps : List Str} {encs : α → List Sl} {P : Program} {w : World} {K : PySem.W.Frag} {mg : Str → Option Value} {base : Heap} {ca : Str → Addr} {code : α → M (Out β γ ρ)} {d : M ρ} (h : L2H.FnH P w K mg base (L2N.CX P w) k f fd ps (spF K ca encs fun a => fnO (fun r => .fr (enr r)) (code a)))
    (hd : d = .no ∨ ∃ r, d = .ok r ∧ enr r = .non) : L2H.FnH P w K mg base (L2N.CX P w) k f fd ps (spE K ca encs enr fun a => fnV d (code a)) :=
  have i := sp_imp (K := K) (ca := ca) (encA := encs) (c1 := fun a => fnO (fun r => .fr (enr r)) (code a)) (c2 := fun a => mb (fnV d (code a)) fun r => .ok (.fr (enr r))) fun a => fnO_fnV (R := fun r => RV.fr (enr r)) (n := code a) (by
    rcases hd with h | ⟨r, h1, h2⟩
    · exact .inl h
    · exact .inr ⟨r, h1, by rw [h2]⟩)
  ⟨fun vs H Q E q => h.len vs H Q E (i _ _ _ _ q), fun A outer s H args us vs Q E p hr h1 h2 he hb hv hs => h.run A outer s H args us vs Q E p hr h1 h2 he hb hv (i _ _ _ _ hs)⟩
theorem ok_ne {α : Type} {x : α} {y : Ex} (h : (M.ok x : M α) = .er y) : False := by cases h
/-- what __init__ answers: the fields behind it -/
def fnI {β γ ρ : Type} (n : M (Out β γ ρ)) : M β := match n with
  | .ok (.nx b) => .ok b
  | .ok _ => .no
  | .er x => .er x
  | .no => .no
theorem fnI_iniO {β γ ρ : Type} (F : β → List (Str × D)) (n : M (Out β γ ρ)) : iniO F n = mb (fnI n) fun r => .ok (F r) := by
  cases n with
  | ok o => cases o <;> rfl
  | er x => rfl
  | no => rfl
theorem fn_I {α β γ ρ : Type} {k : Nat} {f : Addr} {fd : FuncData} {ps : List Str} {encs : α → List Sl} {P : Program} {w : World} {K : PySem.W.Frag} {mg : Str → Option Value} {base : Heap} {ca : Str → Addr} {Cn : Str} {Fl : β → List (Str × D)} {code : α → M (Out β γ ρ)} {g : α → M β} (h : FnOk P w K mg base (L2N.CX P w) k f fd ps (spN K ca Cn encs fun a => iniO Fl (code a)))
    (hg : ∀ a, fnI (code a) = g a) : FnOk P w K mg base (L2N.CX P w) k f fd ps (spN K ca Cn encs fun a => mb (g a) fun r => .ok (Fl r)) := by
  have e : (fun a => iniO Fl (code a)) = fun a => mb (g a) fun r => .ok (Fl r) := by
    funext a
    rw [fnI_iniO, hg a]
  rw [← e]
  exact h
def caL (l : List (Str × Addr)) (x : Str) : Addr := (l.lookup x).getD 0
def faL (l : List Addr) (n : Nat) : Addr := l.getD n 0
def fdL {K : PySem.W.Frag} {x q : Str} {st : Stmt} {f : Addr} {d : FuncData} (_ : Fun K x q st f d) (l : List FuncData) (n : Nat) : FuncData := l.getD n d
theorem kit_self {K : PySem.W.Frag} {C : Addr} : PySem.W.kitOne K (.ref C) (.ref C) = some true := if_pos (by simp)
theorem cx_end {P : Program} {w : World} {H : Hp} {s : Shared} {e : Value} {s' : Shared} (h : L2N.CX P w [] H s (fun _ _ _ => False) e s') : False := by
  obtain ⟨_, _, _, _, _, _, _, _, _, _, _, _, _, _, _, _, w⟩ := h
/-- the positional arguments, then the keyword's -/
theorem a3 {K : PySem.W.Frag} {ca : Str → Addr} {α β γ : Type} {e1 : α → List Sl} {e2 : β → List Sl} {e3 : γ → List Sl} {mk : α → β → γ} (h : ∀ z y, e3 (mk z y) = e1 z ++ e2 y) (G H : Hp) (v : V) (vs zs : List V) (z : α) (y : β) (h1 : ArgL K ca G H vs (e1 z)) (h2 : ArgL K ca G H zs (e2 y)) :
    ∃ ws, (v :: vs) ++ zs = v :: ws ∧ ArgL K ca G H ws (e3 (mk z y)) := by
  refine ⟨vs ++ zs, rfl, ?_⟩
  rw [h]
  have app : ∀ {us : List V} {ss : List Sl}, ArgL K ca G H us ss → ArgL K ca G H (us ++ zs) (ss ++ e2 y) := by
    intro us ss q
    induction q with
    | nil => exact h2
    | cons d t ih => exact .cons d ih
    | consL p d t ih => exact .consL p d ih
  exact app h1
end DL

namespace DL
open PySem PySem.Spec PyProof.Rows L2
variable {X : Cx} {J : Jx}
section
variable {α β β' γ δ ρ : Type} {S S' : List Sl} {N : β → List Sl} {N' : β' → List Sl} {L : γ → List Sl} {R : ρ → RV} {enc : α → D} {enb : β → D} {a b c e tg : Expr} {es : List Expr} {pos p : Pos} {k j : Nat} {rest body : List Stmt}
/-! ### x[i] = e, x a list of one's own -/
def setM {α : Type} (xs : List α) (i : Int) (x : α) : M (List α) := match ixN xs.length i with
  | some j => .ok (xs.set j x)
  | none => .no
theorem ss_put {m : M α} {mi : M Int} {f : List α → M (Out β γ ρ)} {xs : List α} {x : Str} {ie : Expr} {px p2 : Pos} (i : Nat) (hs : S[i]? = some (.ow (xs.map enc))) (hp : PE X (.Name x px) (tVar i)) (he : DE X J S e enc m) (hi : DE X J S ie eI mi)
    (hr : ∀ ys, DSs X J (S.set i (.ow (ys.map enc))) rest N L R (f ys)) (hw : Wk S J.Sx)
    (h1 : swapsWithSole [.Subscript (.Name x px) ie p2] e pos.line X.env = pure false := by rfl) (h2 : swappedStores [.Subscript (.Name x px) ie p2] e X.env = pure none := by rfl) (h3 : (assignEach [.Subscript (.Name x px) ie p2] X.env).map (·.2) = [assign (.Subscript (.Name x px) ie p2) X.env] := by rfl)
    (ha : ∀ v, assign (.Subscript (.Name x px) ie p2) X.env v = (do
      let ov ← holding [v] (eval (.Name x px) X.env)
      let iv ← holding [v, ov] (eval ie X.env)
      standAt p2
      holding [v, ov, iv] (setItem ov iv v)
      release [v, ov, iv] []) := by intro _; rfl) :
    DSs X J S (.Assign [.Subscript (.Name x px) ie p2] e pos :: rest) N L R (mb m fun z => mb mi fun j => mb (setM xs j z) f) :=
  pss_imp (pss_cons (ps_asg he (pg_sub hp hi set_list ha) h1 h2 h3) (pss_ex hr)) fun Dn σ H ⟨G, own, ok, fin⟩ => by
    refine E_bind (FinS.wish hw) ok ⟨fin, ok⟩ fun z v G1 H1 g1 ok1 d r => ?_
    obtain ⟨q, vs, q1, q2, q3, q4⟩ := ok1.sl i _ hs
    refine ⟨.ref q, q1, E_bind (FinS.wish hw) ok1 r fun y u G2 H2 g2 ok2 d2 r2 => ?_⟩
    cases d2
    have hq := g2.h _ _ q3
    have q4' := q4.mono g2.g
    have hl := q4'.length
    rw [List.length_map] at hl
    have r3 := r2.1
    unfold setM at r3
    cases hix : ixN xs.length y with
    | none => rw [hix] at r3; exact r3.elim
    | some jj =>
      rw [hix] at r3
      have dl : DenL X.K J.ca G2 (vs.set jj v) ((xs.set jj z).map enc) := by
        rw [List.map_set]
        exact DenL.set (d.mono g2.g) jj q4'
      exact ⟨q, vs, y, jj, rfl, rfl, hq, by rw [hl]; exact hix, _, G2, own, ok2.mut hq q2 dl q1, r3⟩
/-! ### targets of several names -/
def DGs (X : Cx) (J : Jx) (es : List Expr) {β : Type} (encs : β → List D) (T : β → List Sl → List Sl) : Prop := ∃ t, PGs X es t ∧ ∀ (x : β) (vs : List V) (G H : Hp) (own : Addr → Option Nat) (σ : L2.St) (S : List Sl) (Q : L2.St → Hp → Prop), OkX X J G H own σ S → DenL X.K J.ca G vs (encs x) →
  (∀ σ' own', OkX X J G H own' σ' (T x S) → Q σ' H) → t vs σ H Q
theorem gs_nil : DGs X J [] (fun _ : β => []) (fun _ S => S) := ⟨_, pgs_nil, fun x vs G H own σ S Q ok d q => by cases d; exact ⟨rfl, q σ own ok⟩⟩
theorem gs_cons {d : β → D} {encs : β → List D} {T : β → List Sl → List Sl} {i : Nat} {x : Str} (hN : X.N.Nodup) (h2 : DGs X J es encs T) (hi : X.N[i]? = some x := by rfl) (hx : Loc X.env.scope x := by first | exact Or.inl rfl | exact Or.inr rfl) (hf : X.fn x = true ∨ X.env.scope.names.lookup x = some .local := by first | exact .inl rfl | exact .inr rfl)
    (hs : (assignEach (.Name x p :: es) X.env).map (·.2) = assign (.Name x p) X.env :: (assignEach es X.env).map (·.2) := by rfl) : DGs X J (.Name x p :: es) (fun z => d z :: encs z) (fun z S => T z (S.set i (.fr (d z)))) := by
  obtain ⟨t, h, ht⟩ := h2
  refine ⟨_, pgs_cons (pg_name hN hi hx hf) h hs, fun z vs G H own σ S Q ok den q => ?_⟩
  cases den with
  | cons d1 d2 => exact ⟨_, _, rfl, ht z _ G H own _ _ Q (ok.setF d1) d2 q⟩
theorem g_tup {encs : α → List D} {T : α → List Sl → List Sl} {kk n : Nat} (hc : X.calm = true) (h : DGs X J es encs T) (he : ∀ z, enc z = .tup (encs z)) (hl : ∀ z, (encs z).length = n) (hn : (assignEach es X.env).length = n := by rfl) (hst : (assignEach es X.env).findIdx? (·.1) = none := by rfl) : DG X J (.Tuple es kk pos) enc T := by
  obtain ⟨t, h, ht⟩ := h
  refine ⟨_, pg_tup hc h hn hst, fun z v G H own σ S Q ok d q => ?_⟩
  rw [he z] at d
  obtain ⟨a, vs, rfl, h1, h2⟩ := Den.tup' (X := X) d
  exact ⟨a, vs, rfl, same_seqT ok.gh h1, by rw [h2.length, hl], ht z vs G H own σ S Q ok h2 q⟩
theorem g_unl {encs : α → List D} {T : α → List Sl → List Sl} {kk n : Nat} (hc : X.calm = true) (h : DGs X J es encs T) (he : ∀ z, enc z = .lst (encs z)) (hl : ∀ z, (encs z).length = n) (hn : (assignEach es X.env).length = n := by rfl) (hst : (assignEach es X.env).findIdx? (·.1) = none := by rfl) : DG X J (.Tuple es kk pos) enc T := by
  obtain ⟨t, h, ht⟩ := h
  refine ⟨_, pg_unl hc h hn hst, fun z v G H own σ S Q ok d q => ?_⟩
  rw [he z] at d
  obtain ⟨a, vs, rfl, h1, h2⟩ := Den.lst' (X := X) d
  exact ⟨a, vs, rfl, SqL.of (ok.gh _ _ h1), by rw [h2.length, hl], ht z vs G H own σ S Q ok h2 q⟩
/-- target = e -/
theorem ss_asgG {m : M α} {f : α → M (Out β γ ρ)} {T : α → List Sl → List Sl} (he : DE X J S e enc m) (hg : DG X J tg enc T) (hr : ∀ x, DSs X J (T x S) rest N L R (f x)) (hw : Wk S J.Sx) (h1 : swapsWithSole [tg] e pos.line X.env = pure false := by rfl) (h2 : swappedStores [tg] e X.env = pure none := by rfl) (h3 : (assignEach [tg] X.env).map (·.2) = [assign tg X.env] := by rfl) :
    DSs X J S (.Assign [tg] e pos :: rest) N L R (mb m f) := by
  obtain ⟨g, hg, hgt⟩ := hg
  exact pss_imp (pss_cons (ps_asg he hg h1 h2 h3) (pss_ex hr)) fun Dn σ H ⟨G, own, ok, fin⟩ =>
    E_bind (FinS.wish hw) ok ⟨fin, ok⟩ fun x v G1 H1 g1 ok1 d r => hgt x v G1 H1 own σ S _ ok1 d fun σ' own' ok' => ⟨x, G1, own', ok', r.1⟩
/-- a list of a known length, by its items -/
def un2 {α : Type} : List α → M (α × α)
  | [a, b] => .ok (a, b)
  | _ => .no
def un3 {α : Type} : List α → M (α × α × α)
  | [a, b, c] => .ok (a, b, c)
  | _ => .no
def un4 {α : Type} : List α → M (α × α × α × α)
  | [a, b, c, d] => .ok (a, b, c, d)
  | _ => .no
theorem e_un {κ : Type} {enk : κ → D} {un : List α → M κ} (hun : (∀ xs z, un xs = .ok z → eL enc xs = enk z) ∧ ∀ xs y, un xs ≠ .er y) {m : M (List α)} (h : DE X J S a (eL enc) m) : DE X J S a enk (mb m un) := e_enc h (by
  cases m with
  | ok xs => exact ⟨fun z hz => ⟨xs, rfl, hun.1 xs z hz⟩, fun y hy => absurd hy (hun.2 xs y)⟩
  | er x => exact ⟨fun z hz => (by cases hz), fun y hy => (by cases hy; rfl)⟩
  | no => exact ⟨fun z hz => (by cases hz), fun y hy => (by cases hy)⟩)
theorem un2_ok : (∀ (xs : List α) z, un2 xs = .ok z → eL enc xs = eH2 enc enc z) ∧ ∀ (xs : List α) y, un2 xs ≠ .er y := by
  constructor
  · intro xs z h
    unfold un2 at h
    split at h
    · cases h; rfl
    · cases h
  · intro xs y h
    unfold un2 at h
    split at h <;> cases h
theorem un3_ok : (∀ (xs : List α) z, un3 xs = .ok z → eL enc xs = eH3 enc enc enc z) ∧ ∀ (xs : List α) y, un3 xs ≠ .er y := by
  constructor
  · intro xs z h
    unfold un3 at h
    split at h
    · cases h; rfl
    · cases h
  · intro xs y h
    unfold un3 at h
    split at h <;> cases h
theorem un4_ok : (∀ (xs : List α) z, un4 xs = .ok z → eL enc xs = eH4 enc enc enc enc z) ∧ ∀ (xs : List α) y, un4 xs ≠ .er y := by
  constructor
  · intro xs z h
    unfold un4 at h
    split at h
    · cases h; rfl
    · cases h
  · intro xs y h
    unfold un4 at h
    split at h <;> cases h
/-- a, b = e, f: both names local -/
theorem ss_par2 {m : M α} {n : M β'} {encb : β' → D} {f : α → β' → M (Out β γ ρ)} {i j : Nat} {x y : Str} {px py pt pt2 : Pos} {kt k2 : Nat} (hc : X.calm = true) (hN : X.N.Nodup) (ha : DE X J S a enc m) (hb : DE X J S b encb n) (hr : ∀ x y, DSs X J ((S.set i (.fr (enc x))).set j (.fr (encb y))) rest N L R (f x y)) (hw : Wk S J.Sx) (hij : i ≠ j := by decide)
    (hi : X.N[i]? = some x := by rfl) (hj : X.N[j]? = some y := by rfl) (hx : X.env.scope.names.lookup x = some .local := by rfl) (hy : X.env.scope.names.lookup y = some .local := by rfl)
    (h2 : swappedStores [.Tuple [.Name x px, .Name y py] kt pt] (.Tuple [a, b] k2 pt2) X.env = pure (some [x, y]) := by rfl)
    (h1 : swapsWithSole [.Tuple [.Name x px, .Name y py] kt pt] (.Tuple [a, b] k2 pt2) pos.line X.env = pure false := by rfl) (hs : starEach [a, b] X.env = (false, eval a X.env) :: starEach [b] X.env := by rfl) (hs2 : starEach [b] X.env = (false, eval b X.env) :: starEach [] X.env := by rfl) :
    DSs X J S (.Assign [.Tuple [.Name x px, .Name y py] kt pt] (.Tuple [a, b] k2 pt2) pos :: rest) N L R (mb m fun x => mb n fun y => f x y) :=
  pss_imp (pss_cons (ps_par hc hN hi hj hij hx hy (pa_cons ha (pa_cons hb pa_nil hs2) hs) h2 h1) (pss_ex fun x : α => pss_ex fun y : β' => hr x y)) fun Dn σ H ⟨G, own, ok, fin⟩ =>
    E_bind (FinS.wish hw) ok ⟨fin, ok⟩ fun z v G1 H1 g1 ok1 d r => E_bind (FinS.wish hw) ok1 r fun y u G2 H2 g2 ok2 d2 r2 =>
      ⟨v, u, rfl, z, y, G2, own, (ok2.setF (d.mono g2.g)).setF d2, r2.1⟩
/-! ### int(b), texts -/
theorem e_intB {m : M Bool} (hm : X.mg "int" = none) (h : PA X [a] (tCons (tE X J S eB m) tNil)) (hg : Gl X "int" := by rfl)
    (he : starEach (a :: []) X.env = (false, eval a X.env) :: starEach [] X.env := by rfl) (hpl : (backTo pos (starEach [] X.env)).any (·.1) = false := by rfl) : DE X J S (.Call (.Name "int" p) [a] [] pos) eI (mb m fun x => .ok (if x = true then 1 else 0)) :=
  pe_imp (pe_callTy call_int1 hg hm boot_int h (by decide) (by decide) he hpl) fun σ H Q ⟨G, own, ok, fin⟩ => E_bind (Fin.wish (enc := eI) (Q := Q)) ok fin fun i v G1 H1 g ok1 d r => by
    cases d
    exact .inr ⟨i, rfl, r _ G1 H1 (Grow.refl ok1.gh) (.int _)⟩
def catS (x y : Str) : M Str := if x.length + y.length ≤ line then .ok (x ++ y) else .no
theorem e_catS {m n : M Str} (ha : DE X J S a eS m) (hb : DE X J S b eS n) : DE X J S (.BinOp a .Add b pos) eS (mb m fun x => mb n fun y => catS x y) :=
  pe_imp (pe_op op_add_str ha hb) fun σ H Q ⟨G, own, ok, fin⟩ => E_bind Fin.wish ok fin fun x v G1 H1 g1 ok1 d1 r => E_bind Fin.wish ok1 r fun y u G2 H2 g2 ok2 d2 r2 => by
    cases d1; cases d2
    unfold catS at r2
    split at r2
    · rename_i h
      exact ⟨x, y, rfl, rfl, Nat.le_trans h line_le, r2 _ G2 H2 (Grow.refl ok2.gh) (.str _)⟩
    · exact r2.elim
def lenS (x : Str) : M Int := if x.length ≤ line then .ok (x.length : Int) else .no
theorem e_lenStr {m : M Str} (hm : X.mg "len" = none) (h : PA X [a] (tCons (tE X J S eS m) tNil)) (hg : Gl X "len" := by rfl)
    (he : starEach (a :: []) X.env = (false, eval a X.env) :: starEach [] X.env := by rfl) (hpl : (backTo pos (starEach [] X.env)).any (·.1) = false := by rfl) : DE X J S (.Call (.Name "len" p) [a] [] pos) eI (mb m fun x => lenS x) :=
  pe_imp (pe_callB call_len_str hg hm PySem.boot_len h (by decide) (by decide) he hpl) fun σ H Q ⟨G, own, ok, fin⟩ => E_bind Fin.wish ok fin fun x v G1 H1 g ok1 d r => by
    cases d
    unfold lenS at r
    split at r
    · rename_i h
      exact ⟨x, rfl, Nat.le_trans h line_le, r _ G1 H1 (Grow.refl ok1.gh) (.int _)⟩
    · exact r.elim
end
end DL

namespace DL
open PySem PySem.Spec PyProof.Rows L2
variable {X : Cx} {J : Jx}
section
variable {α β γ δ ρ : Type} {S : List Sl} {enc : α → D} {enb : β → D} {a b c e : Expr} {es : List Expr} {pos p : Pos} {k j : Nat}
/-! ### sum of a tuple of ints -/
theorem cr_sumT (hc : X.calm = true) : CallR X (.builtin "sum") (fun vs H Q => ∃ (a : Addr) (ns : List Int), vs = [V.ref a] ∧ SqT X.K H a (ns.map V.int) ∧ Q (.int ns.sum) H) := by
  intro pins s σ H vs us Q I r h
  obtain ⟨a, ns, rfl, hs, q⟩ := h
  obtain ⟨its, rv, hl, _⟩ := I.tuple hs
  rw [Vals.ref1 r]
  have hi := rv.ints
  obtain ⟨xs, hx⟩ := hi.allInts.items
  have hn : numsOf its.toArray.toList = ns := by rw [show its.toArray.toList = its from rfl, hi.numsOf]
  have hl' : s.heap.IsTuple a its.toArray := hl
  rw [hx] at hl' hn
  rw [nums_intItems] at hn
  refine PySem.W.ktm_sumG (I.ok.hd hc) hl' fun h' tk t' hk => ⟨.int _, H, I.kept hk, ⟨t', ?_⟩, q⟩
  rw [preSum_eq, List.take_of_length_le (by simp), hn]
theorem e_sumT {m : M (List Int)} (hc : X.calm = true) (hm : X.mg "sum" = none) (h : PA X [a] (tCons (tE X J S (eT eI) m) tNil)) (hg : Gl X "sum" := by rfl)
    (he : starEach (a :: []) X.env = (false, eval a X.env) :: starEach [] X.env := by rfl) (hpl : (backTo pos (starEach [] X.env)).any (·.1) = false := by rfl) : DE X J S (.Call (.Name "sum" p) [a] [] pos) eI (mb m fun xs => .ok xs.sum) :=
  pe_imp (pe_callB (cr_sumT hc) hg hm (by decide +kernel) h (by decide) (by decide) he hpl) fun σ H Q ⟨G, own, ok, fin⟩ => E_bind Fin.wish ok fin fun xs v G1 H1 g ok1 d r => by
    obtain ⟨q, vs, rfl, h1, h2⟩ := Den.tuple (X := X) ok1.gh d
    rw [DenL.ints h2] at h1
    exact ⟨q, xs, rfl, h1, r _ G1 H1 (Grow.refl ok1.gh) (.int _)⟩
/-! ### sorted(xs), ints -/
def sortI (xs : List Int) : List Int := xs.mergeSort fun a b => decide (a ≤ b)
theorem sortI_eq {xs ys : List Int} (h : ys.Perm xs) (h2 : ys.Pairwise (· ≤ ·)) : ys = sortI xs := by
  have p : (sortI xs).Perm xs := List.mergeSort_perm _ _
  have s : (sortI xs).Pairwise (· ≤ ·) := by
    have := List.pairwise_mergeSort (le := fun a b : Int => decide (a ≤ b)) (fun a b c h1 h2 => by simp at *; omega) (fun a b => by simp; omega) xs
    exact this.imp fun h => by simpa using h
  exact (h.trans p.symm).eq_of_pairwise (fun a b _ _ h1 h2 => Int.le_antisymm h1 h2) h2 s
theorem o_sorted {m : M (List Int)} (hm : X.mg "sorted" = none) (h : PA X [a] (tCons (tEb X J S (eL eI) m) tNil)) (hg : Gl X "sorted" := by rfl)
    (he : starEach (a :: []) X.env = (false, eval a X.env) :: starEach [] X.env := by rfl) (hpl : (backTo pos (starEach [] X.env)).any (·.1) = false := by rfl) : DO X J S (.Call (.Name "sorted" p) [a] [] pos) eI (mb m fun xs => .ok (sortI xs)) :=
  pe_imp (pe_callB cr_sortedI hg hm (by decide +kernel) h (by decide) (by decide) he hpl) fun σ H Q ⟨G, own, ok, fin⟩ => B_bind FinO.wish ok fin fun xs v G1 H1 g ok1 d r => by
    obtain ⟨q, vs, rfl, h1, h2⟩ := DenB.list ok1.gh d
    rw [DenL.ints h2] at h1
    refine ⟨q, xs, rfl, SqL.of h1, fun ns' l hp hw hl => ?_⟩
    rw [sortI_eq hp hw]
    exact r l _ G1 _ (Grow.allocO ok1.gh hl) hl upd_same (Same.free ok1.gh hl) (DL.DenL.of_ints _)
/-! ### a sign of a text -/
def ixC (x : Str) (i : Int) : M Str := if x.length ≤ line then (match atI x.cps.toList i with
  | some c => .ok ⟨#[c]⟩
  | none => .no) else .no
theorem e_ixStr {m : M Str} {mi : M Int} (ha : DE X J S a eS m) (hb : DE X J S b eI mi) (hs : PlainIx b := by intro _ _; rfl) : DE X J S (.Subscript a b pos) eS (mb m fun x => mb mi fun i => ixC x i) :=
  pe_imp (pe_ix ix_str ha hb hs) fun σ H Q ⟨G, own, ok, fin⟩ => E_bind Fin.wish ok fin fun x v G1 H1 g ok1 d r => E_bind Fin.wish ok1 r fun i u G2 H2 g2 ok2 d2 r2 => by
    cases d; cases d2
    unfold ixC at r2
    split at r2
    · rename_i hz
      split at r2
      · rename_i c hc
        exact ⟨x, i, c, rfl, rfl, Nat.le_trans hz line_le, hc, r2 _ G2 H2 (Grow.refl ok2.gh) (.str _)⟩
      · exact r2.elim
    · exact r2.elim
end
/-! ### classes without defaults, with defaults -/
theorem funD_of {K : PySem.W.Frag} {x q : Str} {st : Stmt} {f : Addr} {fd : FuncData} (F : Fun K x q st f fd) : FunD K x q (defArgs st) (defBody st) (defScope st) [] [] f fd := by
  obtain ⟨oc, od, kV, doc, pm, an, cdv, ct, osl, e, l, c⟩ := F.ex
  exact ⟨⟨oc, od, .none, kV, doc, pm, an, cdv, ct, osl, e, l, c, .inl ⟨rfl, rfl⟩, .inl rfl⟩, F.kp⟩
theorem kb_all {K : PySem.W.Frag} {fd : FuncData} {ps : List Str} {n : Nat} (b : Binds K fd ps []) (hn : n = ps.length := by rfl) : ∃ g, KBn K fd ps n [] g (fun vs zs => vs ++ zs) :=
  ⟨fun us ws => us ++ ws, fun s us ws X h1 h2 => by
    cases ws with
    | nil => exact b s us X (by rw [List.append_nil, h1, hn])
    | cons w ws => simp at h2, fun r1 r2 => r1.append r2⟩
theorem kb_dfl {K : PySem.W.Frag} {fd : FuncData} {ps : List Str} {n : Nat} {dvs : List V} (h : ∃ ds, Vals dvs ds ∧ Binds K fd ps ds) (hn : n + dvs.length = ps.length) : ∃ g, KBn K fd ps n [] g (fun vs _ => vs ++ dvs) := by
  obtain ⟨ds, h1, h2⟩ := h
  refine ⟨fun us _ => us ++ ds, ⟨fun s us ws X l1 l2 => ?_, fun r1 _ => r1.append h1⟩⟩
  cases ws with
  | nil => exact h2 s us X (by rw [List.length_append, ← h1.length, l1, hn])
  | cons w ws => simp at l2
/-- defaults behind the arguments -/
theorem a3d {K : PySem.W.Frag} {ca : Str → Addr} {α β γ : Type} {e1 : α → List Sl} {e2 : β → List Sl} {e3 : γ → List Sl} {mk : α → β → γ} {ds : List D} {vs0 : List V} (hd : ∀ {G : Hp}, DenL K ca G vs0 ds) (h : ∀ z y, e3 (mk z y) = e1 z ++ ds.map Sl.fr) (G H : Hp) (v : V) (vs zs : List V) (z : α) (y : β) (h1 : ArgL K ca G H vs (e1 z)) (h2 : ArgL K ca G H zs (e2 y)) :
    ∃ ws, (v :: vs) ++ vs0 = v :: ws ∧ ArgL K ca G H ws (e3 (mk z y)) := by
  refine ⟨vs ++ vs0, rfl, ?_⟩
  rw [h]
  have app : ∀ {us : List V} {ss : List Sl}, ArgL K ca G H us ss → ArgL K ca G H (us ++ vs0) (ss ++ ds.map Sl.fr) := by
    intro us ss q
    induction q with
    | nil => exact ArgL.of hd
    | cons d t ih => exact .cons d ih
    | consL p d t ih => exact .consL p d ih
  exact app h1
end DL

namespace DL
open PySem PySem.Spec PyProof.Rows L2
variable {X : Cx} {J : Jx}
section
variable {α β β' γ δ ρ : Type} {S S' : List Sl} {N : β → List Sl} {N' : β' → List Sl} {L : γ → List Sl} {R : ρ → RV} {enc : α → D} {enb : β → D} {a b c e tg : Expr} {es : List Expr} {pos p : Pos} {k j : Nat} {rest body : List Stmt}
/-! ### methods that change a list of one's own -/
def insM (xs : List α) (i : Int) (x : α) : M (List α) := if 0 ≤ i ∧ i < 2 ^ 62 ∧ xs.length < line then .ok (xs.take i.toNat ++ [x] ++ xs.drop i.toNat) else .no
theorem ss_ins {m : M α} {mi : M Int} {f : List α → M (Out β γ ρ)} {xs : List α} {x : Str} {px p2 pos2 : Pos} (i : Nat) (hs : S[i]? = some (.ow (xs.map enc))) (hp : PE X (.Name x px) (tVar i)) (hi : DE X J S a eI mi) (he : DE X J S e enc m) (hr : ∀ ys, DSs X J (S.set i (.ow (ys.map enc))) rest N L R (f ys)) (hw : Wk S J.Sx)
    (hb : PE X (.Call (.Attribute (.Name x px) "insert" p2) [a, e] [] pos2) (tBM X.K "list" (fun x vs H Q => ∃ (l : Addr) (xs : List V) (i : Int) (y : V), x = .ref l ∧ vs = [.int i, y] ∧ H l = some (.lst xs) ∧ xs.length < sizeLine ∧ 0 ≤ i ∧ i < 2 ^ 63 ∧
      Q .non (upd H l (.lst (xs.take i.toNat ++ [y] ++ xs.drop i.toNat)))) (tVar i) (tCons (tE X J S eI mi) (tCons (tE X J S enc m) tNil))))
    (hsw : swapsWith (.Call (.Attribute (.Name x px) "insert" p2) [a, e] [] pos2) none pos.line X.env = pure false := by rfl) :
    DSs X J S (.Expr (.Call (.Attribute (.Name x px) "insert" p2) [a, e] [] pos2) pos :: rest) N L R (mb mi fun j => mb m fun z => mb (insM xs j z) f) :=
  pss_imp (pss_cons (ps_expr hb hsw) (pss_ex hr)) fun Dn σ H ⟨G, own, ok, fin⟩ => by
    obtain ⟨q, vs, h1, h2, h3, h4⟩ := ok.sl i _ hs
    refine ⟨.ref q, h1, .inl ⟨rfl, _, SqL.of h3⟩, ?_⟩
    refine E_bind (FinS.wish hw) ok ⟨fin, ok⟩ fun j u G1 H1 g1 ok1 d1 r1 => E_bind (FinS.wish hw) ok1 r1 fun z v G2 H2 g2 ok2 d r => ?_
    cases d1
    have hq := g2.h _ _ (g1.h _ _ h3)
    have h4' := (h4.mono g1.g).mono g2.g
    have hl := h4.length
    rw [List.length_map] at hl
    have r2 := r.1
    unfold insM at r2
    split at r2
    · rename_i hz
      have dl : DenL X.K J.ca G2 (vs.take j.toNat ++ [v] ++ vs.drop j.toNat) ((xs.take j.toNat ++ [z] ++ xs.drop j.toNat).map enc) := by
        rw [List.map_append, List.map_append, List.map_take, List.map_drop]
        exact ((h4'.take _).append (.cons d .nil)).append (h4'.drop _)
      exact ⟨q, vs, j, v, rfl, rfl, hq, by rw [hl]; exact Nat.lt_of_lt_of_le hz.2.2 line_le, hz.1, by omega, _, G2, own, ok2.mut hq h2 dl h1, r2⟩
    · exact r2.elim
/-- the last item, the rest -/
def popM (xs : List α) : M (α × List α) := match xs[xs.length - 1]? with
  | some x => .ok (x, xs.dropLast)
  | none => .no
theorem DenL.dropLast {K : PySem.W.Frag} {ca : Str → Addr} {H : Hp} {vs : List V} {ds : List D} (h : DenL K ca H vs ds) : DenL K ca H vs.dropLast ds.dropLast := by
  rw [List.dropLast_eq_take, List.dropLast_eq_take, h.length]
  exact h.take _
/-- what a pop leaves -/
theorem pop_of {G H : Hp} {own : Addr → Option Nat} {σ : L2.St} {i : Nat} {xs : List α} {q : Addr} {vs : List V} {y : α} {ys : List α} (ok : OkX X J G H own σ S) (h1 : σ[i]? = some (some (.ref q))) (h2 : own q = some i) (h3 : H q = some (.lst vs)) (h4 : DenL X.K J.ca G vs (xs.map enc)) (hy : popM xs = .ok (y, ys)) :
    ∃ v, vs[vs.length - 1]? = some v ∧ Den X.K J.ca G v (enc y) ∧ OkX X J G (upd H q (.lst vs.dropLast)) own σ (S.set i (.ow (ys.map enc))) := by
  have hl := h4.length
  rw [List.length_map] at hl
  unfold popM at hy
  split at hy
  · rename_i x hx
    cases hy
    obtain ⟨v, e1, e2⟩ := h4.get (i := xs.length - 1) (d := enc y) (by rw [List.getElem?_map, hx]; rfl)
    refine ⟨v, by rw [hl]; exact e1, e2, ok.mut h3 h2 ?_ h1⟩
    rw [List.map_dropLast]
    exact DenL.dropLast h4
  · cases hy
theorem ss_popS {f : List α → M (Out β γ ρ)} {xs : List α} {x : Str} {px p2 pos2 : Pos} (i : Nat) (hs : S[i]? = some (.ow (xs.map enc))) (hr : ∀ ys, DSs X J (S.set i (.ow (ys.map enc))) rest N L R (f ys))
    (hb : PE X (.Call (.Attribute (.Name x px) "pop" p2) [] [] pos2) (tBM0 X.K "list" rPop (tVar i)))
    (hsw : swapsWith (.Call (.Attribute (.Name x px) "pop" p2) [] [] pos2) none pos.line X.env = pure false := by rfl) :
    DSs X J S (.Expr (.Call (.Attribute (.Name x px) "pop" p2) [] [] pos2) pos :: rest) N L R (mb (popM xs) fun y => f y.2) :=
  pss_imp (pss_cons (ps_expr hb hsw) (pss_ex hr)) fun Dn σ H ⟨G, own, ok, fin⟩ => by
    obtain ⟨q, vs, h1, h2, h3, h4⟩ := ok.sl i _ hs
    cases hy : popM xs with
    | no => rw [hy] at fin; exact fin.elim
    | er z => unfold popM at hy; split at hy <;> cases hy
    | ok y =>
      rw [hy] at fin
      obtain ⟨v, e1, e2, ok2⟩ := pop_of ok h1 h2 h3 h4 hy
      exact ⟨.ref q, h1, .inl ⟨rfl, _, SqL.of h3⟩, q, vs, v, rfl, rfl, h3, e1, _, G, own, ok2, fin⟩
/-- y = x.pop() -/
theorem ss_popA {f : α → List α → M (Out β γ ρ)} {xs : List α} {x y : Str} {px py p2 pos2 : Pos} (i l : Nat) (hN : X.N.Nodup) (hs : S[i]? = some (.ow (xs.map enc))) (hr : ∀ y ys, DSs X J ((S.set i (.ow (ys.map enc))).set l (.fr (enc y))) rest N L R (f y ys))
    (hb : PE X (.Call (.Attribute (.Name x px) "pop" p2) [] [] pos2) (tBM0 X.K "list" rPop (tVar i))) (hi : X.N[l]? = some y := by rfl) (hx : Loc X.env.scope y := by first | exact Or.inl rfl | exact Or.inr rfl)
    (hsw : swapsWith (.Call (.Attribute (.Name x px) "pop" p2) [] [] pos2) (some (.Name y py)) pos.line X.env = pure false := by rfl) (hf : X.fn y = true ∨ X.env.scope.names.lookup y = some .local := by first | exact .inl rfl | exact .inr rfl) :
    DSs X J S (.Assign [.Name y py] (.Call (.Attribute (.Name x px) "pop" p2) [] [] pos2) pos :: rest) N L R (mb (popM xs) fun y => f y.1 y.2) :=
  pss_imp (pss_cons (ps_set (i := l) hN hi hx hb hsw hf) (pss_ex fun y : α => pss_ex fun ys : List α => hr y ys)) fun Dn σ H ⟨G, own, ok, fin⟩ => by
    obtain ⟨q, vs, h1, h2, h3, h4⟩ := ok.sl i _ hs
    cases hy : popM xs with
    | no => rw [hy] at fin; exact fin.elim
    | er z => unfold popM at hy; split at hy <;> cases hy
    | ok y =>
      rw [hy] at fin
      obtain ⟨v, e1, e2, ok2⟩ := pop_of ok h1 h2 h3 h4 hy
      exact ⟨.ref q, h1, .inl ⟨rfl, _, SqL.of h3⟩, q, vs, v, rfl, rfl, h3, e1, y.1, y.2, G, own, ok2.setF e2, fin⟩
end
end DL

namespace DL
open PySem PySem.Spec PyProof.Rows L2
variable {X : Cx} {J : Jx}
section
variable {α β β' γ δ ρ : Type} {S S' : List Sl} {N : β → List Sl} {N' : β' → List Sl} {L : γ → List Sl} {R : ρ → RV} {enc : α → D} {enb : β → D} {a b c e tg : Expr} {es : List Expr} {pos p : Pos} {k j : Nat} {rest body : List Stmt}
/-! ### x += e, x -= e, ints -/
theorem ss_augI {op : Operator} {g : Int → Int → Int} (ho : PIp X op (ipI g)) {m : M Int} {f : Int → M (Out β γ ρ)} {z : Int} {x : Str} {px : Pos} (i : Nat) (hs : S[i]? = some (.fr (eI z))) (hN : X.N.Nodup) (he : DE X J S e eI m) (hr : ∀ y, DSs X J (S.set i (.fr (eI y))) rest N L R (f y)) (hw : Wk S J.Sx)
    (hi : X.N[i]? = some x := by rfl) (hx : Loc X.env.scope x := by first | exact Or.inl rfl | exact Or.inr rfl) (hf : X.fn x = true ∨ X.env.scope.names.lookup x = some .local := by first | exact .inl rfl | exact .inr rfl) :
    DSs X J S (.AugAssign (.Name x px) op e pos :: rest) N L R (mb m fun y => f (g z y)) :=
  pss_imp (pss_cons (ps_aug (i := i) hN hi hx he ho hf) (pss_ex hr)) fun Dn σ H ⟨G, own, ok, fin⟩ => by
    obtain ⟨v, h1, h2⟩ := ok.sl i _ hs
    cases h2
    refine ⟨_, h1, E_bind (FinS.wish hw) ok ⟨fin, ok⟩ fun y u G1 H1 g1 ok1 d r => ?_⟩
    cases d
    exact ⟨z, y, rfl, rfl, _, G1, own, ok1.setF (.int _), r.1⟩
theorem ss_augAdd {m : M Int} {f : Int → M (Out β γ ρ)} {z : Int} {x : Str} {px : Pos} (i : Nat) (hs : S[i]? = some (.fr (eI z))) (hN : X.N.Nodup) (he : DE X J S e eI m) (hr : ∀ y, DSs X J (S.set i (.fr (eI y))) rest N L R (f y)) (hw : Wk S J.Sx)
    (hi : X.N[i]? = some x := by rfl) (hx : Loc X.env.scope x := by first | exact Or.inl rfl | exact Or.inr rfl) (hf : X.fn x = true ∨ X.env.scope.names.lookup x = some .local := by first | exact .inl rfl | exact .inr rfl) :
    DSs X J S (.AugAssign (.Name x px) .Add e pos :: rest) N L R (mb m fun y => f (z + y)) := ss_augI (g := fun i j => i + j) ip_add i hs hN he hr hw hi hx hf
theorem ss_augSub {m : M Int} {f : Int → M (Out β γ ρ)} {z : Int} {x : Str} {px : Pos} (i : Nat) (hs : S[i]? = some (.fr (eI z))) (hN : X.N.Nodup) (he : DE X J S e eI m) (hr : ∀ y, DSs X J (S.set i (.fr (eI y))) rest N L R (f y)) (hw : Wk S J.Sx)
    (hi : X.N[i]? = some x := by rfl) (hx : Loc X.env.scope x := by first | exact Or.inl rfl | exact Or.inr rfl) (hf : X.fn x = true ∨ X.env.scope.names.lookup x = some .local := by first | exact .inl rfl | exact .inr rfl) :
    DSs X J S (.AugAssign (.Name x px) .Sub e pos :: rest) N L R (mb m fun y => f (z - y)) := ss_augI (g := fun i j => i - j) ip_sub i hs hN he hr hw hi hx hf
end
/-! ### more written lengths -/
section
variable {α β γ δ ε ζ : Type}
def eP5 (e : α → D) (f : β → D) (g : γ → D) (h : δ → D) (i : ε → D) : α × β × γ × δ × ε → D := fun p => .tup [e p.1, f p.2.1, g p.2.2.1, h p.2.2.2.1, i p.2.2.2.2]
def eH5 (e : α → D) (f : β → D) (g : γ → D) (h : δ → D) (i : ε → D) : α × β × γ × δ × ε → D := fun p => .lst [e p.1, f p.2.1, g p.2.2.1, h p.2.2.2.1, i p.2.2.2.2]
def eP6 (e : α → D) (f : β → D) (g : γ → D) (h : δ → D) (i : ε → D) (j : ζ → D) : α × β × γ × δ × ε × ζ → D := fun p => .tup [e p.1, f p.2.1, g p.2.2.1, h p.2.2.2.1, i p.2.2.2.2.1, j p.2.2.2.2.2]
def eH6 (e : α → D) (f : β → D) (g : γ → D) (h : δ → D) (i : ε → D) (j : ζ → D) : α × β × γ × δ × ε × ζ → D := fun p => .lst [e p.1, f p.2.1, g p.2.2.1, h p.2.2.2.1, i p.2.2.2.2.1, j p.2.2.2.2.2]
def un5 : List α → M (α × α × α × α × α)
  | [a, b, c, d, e] => .ok (a, b, c, d, e)
  | _ => .no
def un6 : List α → M (α × α × α × α × α × α)
  | [a, b, c, d, e, f] => .ok (a, b, c, d, e, f)
  | _ => .no
theorem un5_ok {enc : α → D} : (∀ (xs : List α) z, un5 xs = .ok z → eL enc xs = eH5 enc enc enc enc enc z) ∧ ∀ (xs : List α) y, un5 xs ≠ .er y := by
  constructor
  · intro xs z h
    unfold un5 at h
    split at h
    · cases h; rfl
    · cases h
  · intro xs y h
    unfold un5 at h
    split at h <;> cases h
theorem un6_ok {enc : α → D} : (∀ (xs : List α) z, un6 xs = .ok z → eL enc xs = eH6 enc enc enc enc enc enc z) ∧ ∀ (xs : List α) y, un6 xs ≠ .er y := by
  constructor
  · intro xs z h
    unfold un6 at h
    split at h
    · cases h; rfl
    · cases h
  · intro xs y h
    unfold un6 at h
    split at h <;> cases h
end
end DL

namespace DL
open PySem PySem.Spec PyProof.Rows L2
/-! ### set(xs), xs a list of ints: __new__ by code_set_led1, the loop of __init__ by set_update_ints (by name); the walk of type.__call__ and of set.__init__ is here -/
/-- what set.__new__ lays -/
abbrev freshSet (w : World) : Obj := { cls := .type "set", dict := none, data := .set #[] 0 (.fresh 0 0 (!w.params.followText "set-order")) }
section
variable {P : Program} {w : World} {A : Around} {E : Value → Shared → Prop}
theorem init_setL {s : Shared} {S l : Addr} {items : Array Value} {ns : List Int} {Q : PySem.Fin → Shared → Prop} (hh : A.handled = none) (hS : s.heap.get? S = some (freshSet w)) (hl : s.heap.IsList l items) (hne : S ≠ l) (hi : IntsAre items.toList ns) (hb : ns.length + 1 < scanBound)
    (h : ∀ s' c, Moved [S, s.heap.objs.size] (fun a b => b = a) { s with heap := s.heap.push { cls := .type "list_iterator", data := .fields #[.ref l, .int 0 0] } } s' → c ≤ ns.length → SetR w s'.heap S (fun j => decide (j ∈ ns)) c → Q (.done (.ret .none)) s') :
    wpAny (model P w) A (Builtin.«set.__init__» ⟨[.ref S, .ref l], []⟩) Q E s := by
  have hS2 := hS
  have hl2 := hl
  obtain ⟨ol, h1, h2, nl, h3⟩ := hl2
  obtain ⟨c1, d1, dt1, sl1⟩ := ol
  simp only at h2 h3
  subst h2 h3
  have s1 := F.sub_list_set
  have s2 := F.sub_list_frozenset
  have s3 : (Value.type "list" == Value.type "dict") = false := by decide
  obtain ⟨hp, g, d, tk, os⟩ := s
  dsimp only at hS hl h1 h
  unfold Builtin.«set.__init__» noKeywords Builtin.Frozenset.updateFrom
  refine wpAny_bind (wpAny_pure ?_)
  repeat (first | (with_reducible refine wpAny_bind (wpAny_pyIter_list (s := ⟨hp, g, d, tk, os⟩) hl ?_)) | wp_step)
  have hL : l < hp.objs.size := Heap.lt_size h1
  have hSz : S < hp.objs.size := Heap.lt_size hS
  have hA : A.in1.handled = none := by simp [hh]
  have g1 : (hp.push { cls := Value.type "list_iterator", data := Data.fields #[Value.ref l, Value.int 0 0] }).get? S = some (freshSet w) := Heap.get?_push_of_some _ hS
  have hlen : items.size = ns.length := by rw [← IntsAre.length hi, Array.length_toList]
  refine set_update_ints (Walks.toS (Walks.list hA hp.objs.size l (Nat.ne_of_lt hL) items)) S (fun z => ?_) ns hlen hb (fun i v hv => ?_) items.size 0 _ rfl (Nat.zero_le _)
    ⟨⟨_, Heap.get?_push_size _ rfl, rfl, rfl⟩, hl.push _⟩ ⟨0, Nat.le_refl _, setR_new_at g1⟩ fun s2 c hm hc hR => ?_
  · rcases List.mem_cons.mp z with e | e
    · exact absurd e (Nat.ne_of_lt hSz)
    · exact hne (List.mem_singleton.mp e)
  · obtain ⟨t, e⟩ := IntsAre.int_at hi i v (by rw [Array.getElem?_toList]; exact hv)
    have hlt : i < ns.length := by rw [← hlen]; exact (Array.getElem?_eq_some_iff.mp hv).1
    exact ⟨ns[i], t, List.getElem?_eq_getElem hlt, by rw [e, List.getD_eq_getElem?_getD, List.getElem?_eq_getElem hlt]; rfl⟩
  · exact wpAny_pure (wpAny_pure (h s2 c hm (by omega) hR))

/-- set(xs): the walk of type.__call__ -/
theorem set_of_list {s : Shared} {l : Addr} {items : Array Value} {ns : List Int} {Q : Value → Shared → Prop} (hh : A.handled = none) (hl : s.heap.IsList l items) (hi : IntsAre items.toList ns) (hb : ns.length + 1 < scanBound)
    (h : ∀ (h' : Heap) (tk c : Nat), SetR w h' s.heap.objs.size (fun j => decide (j ∈ ns)) c → c ≤ ns.length → (∀ b o, s.heap.get? b = some o → h'.get? b = some o) → Q (.ref s.heap.objs.size) { s with heap := h', toks := tk }) :
    wpAny (model P w) A (call (.type "set") [.ref l]) Q E s := by
  have T := F.called_set
  have a1 := T.notType
  have a2 := T.canCreate
  obtain ⟨a3, a4, a5⟩ := T.mro
  have a6 := T.made
  have a7 := T.sub
  have a8 := F.typeCall_set_1 (.ref l)
  have a9 := T.init.lookup
  refine wpAny_call (codeAny_of_tree ?_)
  wp_walk
  have f1 : (freshSet w).cls = .type "set" := rfl
  refine ⟨Code.quiet_builtin _ (by decide +kernel), codeAny_builtin F.entry_type_call ?_⟩
  rw [Around.under_plain (by rfl) (by rfl)]
  wp_walk
  have g1 : (s.heap.push (freshSet w)).get? s.heap.objs.size = some (freshSet w) := Heap.get?_push_size _ rfl
  refine codeAny_mono (code_set_led1 (E := E) (.ref l) (Q₁ := fun o s1 => o = .ref s.heap.objs.size ∧ s1 = { s with heap := s.heap.push (freshSet w) }) ⟨rfl, rfl⟩) ?_
  rintro (e | (_ | _ | _ | o)) s1 hr
  case ok.ret =>
    obtain ⟨e1, e2⟩ := hr
    subst e1 e2
    have b1 := T.init.bind (.ref s.heap.objs.size)
    have t1 : Shared.TypeIs { s with heap := s.heap.push (freshSet w) } (.ref s.heap.objs.size) "set" := ⟨_, g1, rfl⟩
    wp_walk
    have hlt : l < s.heap.objs.size := let ⟨_, e, _⟩ := hl; Heap.lt_size e
    refine codeAny_call_builtin T.init.plain F.entry_set_init (check_set_init_1 t1 (init_setL (s := { s with heap := s.heap.push (freshSet w) }) (by simp [hh]) g1 (hl.push _) (Nat.ne_of_gt hlt) hi hb fun s2 c hm hc hR => ?_))
    have e : s2 = { s with heap := s2.heap, toks := s2.toks } := by
      obtain ⟨a1, a2, a3, a4, a5⟩ := s2
      have e1 := hm.gens
      have e2 := hm.drawn
      have e3 := hm.os
      dsimp only at e1 e2 e3
      subst e1 e2 e3
      rfl
    have hk : ∀ b o, s.heap.get? b = some o → s2.heap.get? b = some o := fun b o hb => by
      have hbl := Heap.lt_size hb
      have hsz : (s.heap.push (freshSet w)).objs.size = s.heap.objs.size + 1 := Heap.size_push ..
      refine hm.heap b o (fun z => ?_) (Heap.get?_push_of_some _ (Heap.get?_push_of_some _ hb))
      rcases List.mem_cons.mp z with q | q
      · exact absurd q (Nat.ne_of_lt hbl)
      · have q2 : b = (s.heap.push (freshSet w)).objs.size := List.mem_singleton.mp q
        rw [q2, hsz] at hbl
        exact absurd hbl (Nat.not_lt.mpr (Nat.le_succ _))
    wp_walk
    rw [e]
    exact h _ _ c hR hc hk
  all_goals first | exact hr | exact hr.elim
end
/-- set(xs), set(t) -/
theorem cr_setI {X : Cx} (hc : X.calm = true) : CallR X (.type "set") (fun vs H Q => ∃ (a : Addr) (ns : List Int), vs = [V.ref a] ∧ (SqL X.K H a (ns.map V.int) ∨ SqT X.K H a (ns.map V.int)) ∧ ns.length < 1000 ∧
    ∀ (p : Addr) (c : Nat), H p = none → c ≤ ns.length → Q (.ref p) (upd H p (SetO X.w p (fun j => decide (j ∈ ns)) c))) := by
  intro pins s σ H vs us Q I r h
  obtain ⟨a, ns, rfl, hs, hl, q⟩ := h
  have hb : ns.length + 1 < scanBound := by have : 1001 ≤ scanBound := by decide
                                            omega
  rw [Vals.ref1 r]
  have fin : ∀ (h' : Heap) (tk c : Nat), SetR X.w h' s.heap.objs.size (fun j => decide (j ∈ ns)) c → c ≤ ns.length → (∀ b o, s.heap.get? b = some o → h'.get? b = some o) → ∃ (y : V) (H' : Hp), Inv X pins σ H' { s with heap := h', toks := tk } ∧ RelV y (.ref s.heap.objs.size) ∧ Q y H' := fun h' tk c R hcn hk =>
    ⟨.ref s.heap.objs.size, _, I.laid (t' := tk) hk (Nat.le_refl _) (setO_new R), rfl, q _ _ (I.hok.fresh (Nat.le_refl _)) hcn⟩
  rcases hs with hs | hs
  · obtain ⟨its, rv, isl, hz⟩ := I.list hs
    exact set_of_list (I.ok.hd hc) isl.isList (ints_of_vals rv) hb fin
  · obtain ⟨its, rv, pt, hz⟩ := I.tuple hs
    exact call_set_tupI ns (I.ok.hd hc) pt (ints_of_vals rv) hb fin
end DL

namespace DL
open PySem PySem.Spec PyProof.Rows L2
variable {X : Cx} {J : Jx}
section
variable {S : List Sl} {a : Expr} {pos p : Pos}
/-- sorted(set(xs)) -/
def nub : List Int → List Int
  | [] => []
  | x :: xs => if x ∈ xs then nub xs else x :: nub xs
theorem mem_nub {k : Int} : ∀ {xs : List Int}, k ∈ nub xs ↔ k ∈ xs
  | [] => Iff.rfl
  | x :: xs => by
    unfold nub
    split
    · rename_i h
      rw [mem_nub, List.mem_cons]
      constructor
      · exact .inr
      · rintro (rfl | h2)
        · exact h
        · exact h2
    · rw [List.mem_cons, List.mem_cons, mem_nub]
theorem nub_nodup : ∀ xs : List Int, (nub xs).Nodup
  | [] => List.nodup_nil
  | x :: xs => by
    unfold nub
    split
    · exact nub_nodup xs
    · rename_i h
      exact List.nodup_cons.mpr ⟨fun q => h (mem_nub.mp q), nub_nodup xs⟩
def usort (xs : List Int) : List Int := sortI (nub xs)
def sortSet (xs : List Int) : M (List Int) := if xs.length < 64 then .ok (usort xs) else .no
theorem usort_eq {xs ns : List Int} (h : ns.Pairwise (· < ·)) (hm : ∀ k : Int, k ∈ ns ↔ decide (k ∈ xs) = true) : ns = usort xs := by
  refine sortI_eq ?_ (h.imp fun z => Int.le_of_lt z)
  refine (List.perm_ext_iff_of_nodup (h.imp fun z => Int.ne_of_lt z) (nub_nodup xs)).mpr fun k => ?_
  rw [hm k, mem_nub, decide_eq_true_eq]
/-- a thing of ints: a list, a tuple -/
def SeqI (X : Cx) (J : Jx) {α : Type} (enc : α → D) (f : α → List Int) : Prop := ∀ (z : α) (v : V) (G H : Hp) (own : Addr → Option Nat), Same G H → DenB X J G H own v (enc z) → ∃ q, v = .ref q ∧ (SqL X.K H q ((f z).map V.int) ∨ SqT X.K H q ((f z).map V.int))
theorem seqI_L : SeqI X J (eL eI) (fun xs => xs) := fun z v G H own sg d => by
  obtain ⟨q, vs, rfl, h1, h2⟩ := DenB.list (X := X) sg d
  rw [DenL.ints h2] at h1
  exact ⟨q, rfl, .inl (SqL.of h1)⟩
theorem seqI_T : SeqI X J (eT eI) (fun xs => xs) := fun z v G H own sg d => by
  obtain ⟨q, vs, rfl, h1, h2⟩ := DenB.tup (X := X) sg d
  rw [DenL.ints h2] at h1
  exact ⟨q, rfl, .inr h1⟩
theorem o_sortSet {α : Type} {enc : α → D} {f : α → List Int} {m : M α} {p2 q2 : Pos} (hc : X.calm = true) (hm : X.mg "sorted" = none) (hm2 : X.mg "set" = none) (hq : SeqI X J enc f) (h : PA X [a] (tCons (tEb X J S enc m) tNil)) (hg : Gl X "sorted" := by rfl) (hg2 : Gl X "set" := by rfl)
    (he2 : starEach (a :: []) X.env = (false, eval a X.env) :: starEach [] X.env := by rfl) (hpl2 : (backTo q2 (starEach [] X.env)).any (·.1) = false := by rfl)
    (he : starEach (Expr.Call (.Name "set" p2) [a] [] q2 :: []) X.env = (false, eval (.Call (.Name "set" p2) [a] [] q2) X.env) :: starEach [] X.env := by rfl) (hpl : (backTo pos (starEach [] X.env)).any (·.1) = false := by rfl) :
    DO X J S (.Call (.Name "sorted" p) [.Call (.Name "set" p2) [a] [] q2] [] pos) eI (mb m fun z => sortSet (f z)) :=
  pe_imp (pe_callB (cr_sortedSet hc) hg hm (by decide +kernel) (pa_cons (pe_callTy (cr_setI hc) hg2 hm2 boot_set h (by decide) (by decide) he2 hpl2) pa_nil he) (by decide) (by decide) he hpl) fun σ H Q ⟨G, own, ok, fin⟩ => B_bind FinO.wish ok fin fun z v G1 H1 g ok1 d r => by
    obtain ⟨q, rfl, h1⟩ := hq z v _ _ _ ok1.gh d
    unfold sortSet at r
    split at r
    · rename_i hl
      refine ⟨q, f z, rfl, h1, by omega, fun t c ht hcl => ⟨t, _, c, rfl, upd_same, by omega, fun ns l h3 h4 h5 h6 => ?_⟩⟩
      rw [usort_eq h3 h4]
      have n1 : l ≠ t := fun z => by rw [z, upd_same] at h6; cases h6
      have hl1 : H1 l = none := by rw [upd_ne n1] at h6; exact h6
      have g1 := Grow.allocO (o := SetO X.w t (fun j => decide (j ∈ f z)) c) ok1.gh ht
      have g2 := Grow.allocO (o := .lst ((usort (f z)).map V.int)) g1.gh h6
      exact r l _ G1 _ (g1.trans g2) hl1 upd_same (Same.free ok1.gh hl1) (DL.DenL.of_ints _)
    · exact r.elim
end
end DL

namespace DL
open PySem PySem.Spec PyProof.Rows L2
variable {X : Cx} {J : Jx}
/-! ### a list or a tuple, by a flag (true: a tuple) -/
def eQ {α : Type} (e : α → D) : Bool × List α → D := fun z => match z with
  | (true, xs) => .tup (xs.map e)
  | (false, xs) => .lst (xs.map e)
section
variable {α β γ δ ρ : Type} {S : List Sl} {enc : α → D} {enb : β → D} {a b c e tg : Expr} {es : List Expr} {pos p : Pos} {k j : Nat}
theorem q_list {m : M (List α)} (h : DE X J S a (eL enc) m) : DE X J S a (eQ enc) (mb m fun xs => .ok (false, xs)) := e_conv (fun xs => (false, xs)) h fun _ => rfl
theorem q_tup {m : M (List α)} (h : DE X J S a (eT enc) m) : DE X J S a (eQ enc) (mb m fun xs => .ok (true, xs)) := e_conv (fun xs => (true, xs)) h fun _ => rfl
theorem Den.seq {G H : Hp} {v : V} {z : Bool × List α} (e : Same G H) (d : Den X.K J.ca G v (eQ enc z)) : ∃ q vs, v = .ref q ∧ (SqL X.K H q vs ∨ SqT X.K H q vs) ∧ DenL X.K J.ca G vs (z.2.map enc) := by
  obtain ⟨b, xs⟩ := z
  cases b with
  | true =>
    obtain ⟨q, vs, h1, h2, h3⟩ := Den.tuple (X := X) e d
    exact ⟨q, vs, h1, .inr h2, h3⟩
  | false =>
    obtain ⟨q, vs, h1, h2, h3⟩ := Den.lst' (X := X) d
    exact ⟨q, vs, h1, .inl (SqL.of (e _ _ h2)), h3⟩
theorem e_lenQ {m : M (Bool × List α)} (hm : X.mg "len" = none) (h : PA X [a] (tCons (tE X J S (eQ enc) m) tNil)) (hg : Gl X "len" := by rfl)
    (he : starEach (a :: []) X.env = (false, eval a X.env) :: starEach [] X.env := by rfl) (hpl : (backTo pos (starEach [] X.env)).any (·.1) = false := by rfl) : DE X J S (.Call (.Name "len" p) [a] [] pos) eI (mb m fun z => .ok (z.2.length : Int)) :=
  pe_imp (pe_callB call_len_seq hg hm PySem.boot_len h (by decide) (by decide) he hpl) fun σ H Q ⟨G, own, ok, fin⟩ => E_bind Fin.wish ok fin fun z v G1 H1 g ok1 d r => by
    obtain ⟨q, vs, rfl, h1, h2⟩ := Den.seq ok1.gh d
    refine ⟨q, vs, rfl, h1, ?_⟩
    have e := h2.length
    rw [List.length_map] at e
    rw [e]
    exact r _ G1 H1 (Grow.refl ok1.gh) (.int _)
theorem ty_qL : ∀ (z : Bool × List α) v G H own, Same G H → DenB X J G H own v (eQ enc z) → ∃ t', TyX X.K H v t' ∧ PySem.W.kitOne X.K t' (.type "list") = some ((fun z => !z.1) z) :=
  fun z v G H own sg d => by
    obtain ⟨b, xs⟩ := z
    cases b with
    | true =>
      obtain ⟨q, vs, rfl, h1, h2⟩ := DenB.tup (X := X) sg d
      exact ⟨_, sqT_ty h1, kit_ty (r := false) (by decide +kernel)⟩
    | false =>
      obtain ⟨q, vs, rfl, h1, h2⟩ := DenB.list (X := X) sg d
      exact ⟨_, .base (.lst h1), kit_ty (r := true) (by decide +kernel)⟩
theorem ty_qT : ∀ (z : Bool × List α) v G H own, Same G H → DenB X J G H own v (eQ enc z) → ∃ t', TyX X.K H v t' ∧ PySem.W.kitOne X.K t' (.type "tuple") = some ((fun z => z.1) z) :=
  fun z v G H own sg d => by
    obtain ⟨b, xs⟩ := z
    cases b with
    | true =>
      obtain ⟨q, vs, rfl, h1, h2⟩ := DenB.tup (X := X) sg d
      exact ⟨_, sqT_ty h1, kit_ty (r := true) (by decide +kernel)⟩
    | false =>
      obtain ⟨q, vs, rfl, h1, h2⟩ := DenB.list (X := X) sg d
      exact ⟨_, .base (.lst h1), kit_ty (r := false) (by decide +kernel)⟩
/-- list(z) -/
theorem o_listQ {m : M (Bool × List α)} (hm : X.mg "list" = none) (h : PA X [a] (tCons (tE X J S (eQ enc) m) tNil)) (hg : Gl X "list" := by rfl)
    (he : starEach (a :: []) X.env = (false, eval a X.env) :: starEach [] X.env := by rfl) (hpl : (backTo pos (starEach [] X.env)).any (·.1) = false := by rfl) : DO X J S (.Call (.Name "list" p) [a] [] pos) enc (mb m fun z => .ok z.2) :=
  pe_imp (pe_callTy call_list_of hg hm boot_list h (by decide) (by decide) he hpl) fun σ H Q ⟨G, own, ok, fin⟩ => E_bind FinO.wish ok fin fun z v G1 H1 g ok1 d r => by
    obtain ⟨q, vs, rfl, h1, h2⟩ := Den.seq ok1.gh d
    exact ⟨q, vs, rfl, h1, fun l hl => r l vs G1 _ (Grow.allocO ok1.gh hl) hl upd_same (Same.free ok1.gh hl) h2⟩
/-- by the flag -/
theorem i_seq {m : M (Bool × List α)} (h : DE X J S a (eQ enc) m) : DI X J S tg a enc (mb m fun z => .ok z.2) := by
  cases m with
  | no => exact ⟨fun pins s σ H Q I ⟨G, own, ok, fin⟩ => fin.elim⟩
  | er x => exact i_list (m := .er x) (e_enc h ⟨fun z hz => (by cases hz), fun y hy => (by cases hy; rfl)⟩)
  | ok z =>
    obtain ⟨b, xs⟩ := z
    cases b with
    | true => exact i_tup (m := .ok xs) (e_enc h ⟨fun z hz => (by cases hz; exact ⟨_, rfl, rfl⟩), fun y hy => (by cases hy)⟩)
    | false => exact i_list (m := .ok xs) (e_enc h ⟨fun z hz => (by cases hz; exact ⟨_, rfl, rfl⟩), fun y hy => (by cases hy)⟩)
theorem e_ixQ {m : M (Bool × List α)} {mi : M Int} (ha : DE X J S a (eQ enc) m) (hb : DE X J S b eI mi) (hs : PlainIx b := by intro _ _; rfl) : DE X J S (.Subscript a b pos) enc (mb m fun z => mb mi fun i => ixM z.2 i) := by
  cases m with
  | no => exact ⟨fun pins s σ H Q I ⟨G, own, ok, fin⟩ => fin.elim⟩
  | er x => exact e_ixT (m := .er x) (e_enc ha ⟨fun z hz => (by cases hz), fun y hy => (by cases hy; rfl)⟩) hb hs
  | ok z =>
    obtain ⟨b', xs⟩ := z
    cases b' with
    | true => exact e_ixT (m := .ok xs) (e_enc ha ⟨fun z hz => (by cases hz; exact ⟨_, rfl, rfl⟩), fun y hy => (by cases hy)⟩) hb hs
    | false => exact e_ixL (m := .ok xs) (b_e (e_enc ha ⟨fun z hz => (by cases hz; exact ⟨_, rfl, rfl⟩), fun y hy => (by cases hy)⟩)) hb hs
end
end DL

namespace DL
open PySem PySem.Spec PyProof.Rows L2
variable {X : Cx} {J : Jx}
section
variable {α β γ δ ρ : Type} {S S1 : List Sl} {N : β → List Sl} {L : γ → List Sl} {R : ρ → RV} {enc : α → D} {a b c e : Expr} {es : List Expr} {pos p : Pos} {k j : Nat} {rest body : List Stmt}
/-! ### try: .. except B as n: .., B a class above those that come (cs) -/
def tryB {β γ ρ : Type} (cs : List Str) (m : M (Out β γ ρ)) (f : Str → List (Str × D) → M (Out β γ ρ)) : M (Out β γ ρ) := match m with
  | .er x => if x.cls ∈ cs then noEr (f x.cls x.args) else .no
  | .ok o => .ok o
  | .no => .no
@[simp] theorem tryB_ok {β γ ρ : Type} (cs : List Str) (o : Out β γ ρ) (f : Str → List (Str × D) → M (Out β γ ρ)) : tryB cs (.ok o) f = .ok o := rfl
theorem tryB_er {β γ ρ : Type} {cs : List Str} {cn : Str} (h : cn ∈ cs) (a : List (Str × D)) (f : Str → List (Str × D) → M (Out β γ ρ)) : tryB cs (.er ⟨cn, a⟩) f = noEr (f cn a) := if_pos h
theorem ss_tryB {cn n : Str} {i : Nat} {b₀ : Stmt} {suite : List Stmt} {np pos' : Pos} {cs : List Str} {mB : M (Out β γ ρ)} {f : Str → List (Str × D) → M (Out β γ ρ)} (C : CxD X J k) (hs : X.stack = X.env :: X.outer) (hf : X.env.frame = some X.env.locals) (hln : X.env.kindOf n = some .local) (hgl : Gl X cn) (hgm : X.mg cn = some (.ref (J.ca cn)))
    (hem : ∀ c ∈ cs, PySem.W.exmOne X.K (.ref (J.ca c)) (.ref (J.ca cn)) = some true) (hi : X.N[i]? = some n) (hd : (cn == ("__debug__" : Str)) = false)
    (hb : ∀ (W : WX) (pn : List (Addr × Obj)) (xe : Value → Shared → Prop), CxD (X.tr pn xe) ⟨J.ca, W, J.B, S1⟩ k → DSs (X.tr pn xe) ⟨J.ca, W, J.B, S1⟩ S body N L R mB)
    (hsu : ∀ (a : Addr) (oe : Obj) (cls : Value) (d : Option Addr) (pn : List (Addr × Obj)) (args : List (Str × D)), CxS (X.suite a ((a, oe) :: pn)) (js J) k → Zc cls d oe → (∃ vs, oe.data = .fields vs) → ∀ c ∈ cs, cls = .ref (J.ca c) → DSs (X.suite a ((a, oe) :: pn)) (js J) (S1.set i (.xc a d args)) (b₀ :: suite) N L R (f c args))
    (hN : ∀ b, (N b)[i]? = some .un) (hL : ∀ b, (L b)[i]? = some .un) :
    DS X J S (.Try body [.ExceptHandler (some (.Name cn np)) (some n) (b₀ :: suite) pos'] [] [] pos) N L R (tryB cs mB f) := by
  have hA : ∀ (a : Addr) (oe : Obj) (cls : Value) (d : Option Addr) (pn : List (Addr × Obj)), L2N.Zn cls d oe → (∃ vs, oe.data = .fields vs) → CxS (X.suite a ((a, oe) :: pn)) (js J) k := fun a oe cls d pn hz ⟨vs, hv⟩ =>
    ⟨⟨(a, oe), ⟨rfl, vs, hv, hz.2.2 vs hv⟩, List.mem_cons_self⟩, L2H.roomH_mark C.room _, takesN, C.nd⟩
  refine ps_imp (L2N.ps_try_as (Wout := J.W) hs hf C.nd hi hln ⟨hgl, hd, .inl hgm⟩ C.tk
    (tb := fun W => tS X ⟨J.ca, W, J.B, S1⟩ S N L R mB)
    (ts := fun a cls d Dn σ H => ∃ c args, c ∈ cs ∧ cls = .ref (J.ca c) ∧ tS X (js J) (S1.set i (.xc a d args)) N L R (f c args) Dn σ H)
    (fun W pn xe tk po => hb W pn xe ⟨C.calm, tk, po, C.room, C.nd⟩) (fun a oe cls d pn hz hv => ?_)) fun Dn σ H ⟨G, own, ok, fin⟩ => ?_
  · refine ⟨fun pins s σ H D I ⟨c, args, hm, hc, q⟩ => ?_⟩
    exact (hsu a oe cls d pn args (hA a oe cls d pn hz hv) hz.zc hv c hm hc).run pins s σ H D I q
  · refine ⟨G, own, ok, ?_⟩
    cases hmB : mB with
    | ok o =>
      rw [hmB] at fin
      cases o with
      | nx b => exact fin
      | rt r => exact fin
      | bk c => exact fin
      | ct c => exact fin
    | no => rw [hmB] at fin; exact fin
    | er x =>
      rw [hmB] at fin
      intro cls d σ' G' H' own' sg ok' ra
      by_cases hx : x.cls ∈ cs
      · have fin2 : FinS X J N L R Dn G (noEr (f x.cls x.args)) := by
          unfold tryB at fin
          simp only [if_pos hx] at fin
          exact fin
        obtain ⟨hc, hd2⟩ := ra
        refine ⟨true, by rw [hc]; exact hem _ hx, fun _ a hn => ⟨x.cls, x.args, hx, hc, G', own', ok'.setX hd2, ?_⟩, fun z => by cases z⟩
        have fin3 := fin2.mono sg
        cases hfa : f x.cls x.args with
        | no => rw [hfa] at fin3; exact fin3.elim
        | er y => rw [hfa] at fin3; exact fin3.elim
        | ok o =>
          rw [hfa] at fin3
          cases o with
          | nx b => exact fun σ2 G2 H2 own2 s2 k2 => fin3 _ G2 H2 own2 s2 (Ok.unset k2 (hN b))
          | rt r => exact fin3
          | bk c => exact fun σ2 G2 H2 own2 s2 k2 => fin3 _ G2 H2 own2 s2 (Ok.unset k2 (hL c))
          | ct c => exact fun σ2 G2 H2 own2 s2 k2 => fin3 _ G2 H2 own2 s2 (Ok.unset k2 (hL c))
      · unfold tryB at fin
        simp only [if_neg hx] at fin
        exact fin.elim
end
end DL

namespace DL
open PySem PySem.Spec PyProof.Rows L2
variable {X : Cx} {J : Jx}
section
variable {β γ ρ : Type} {S S1 : List Sl} {N : β → List Sl} {L : γ → List Sl} {R : ρ → RV} {b c e : Expr} {es : List Expr} {pos p : Pos} {k j : Nat} {rest body : List Stmt}
/-! ### isinstance(e, c), e the caught exception with fields: the library's kitx_exc -/
def isxM (args : List (Str × D)) (r : Bool) : M Bool := match args with
  | [] => .no
  | _ :: _ => .ok r
@[simp] theorem isxM_cons (x : Str × D) (l : List (Str × D)) (r : Bool) : isxM (x :: l) r = .ok r := rfl
theorem call_isX {a D dd : Addr} {oe : Obj} {pn : List (Addr × Obj)} (C : ExcC X.K D) (hz : Zc (.ref D) (some dd) oe) (hf : ∃ vs, oe.data = .fields vs) :
    CallR (X.suite a ((a, oe) :: pn)) (.builtin "isinstance") (fun xs H Q => ∃ (c : V) (cv : Value) (b : Bool), xs = [.ref a, c] ∧ ClsV c cv ∧ PySem.W.kitOne X.K (.ref D) cv = some b ∧ (∃ fs, H dd = some (.xd fs)) ∧ Q (.bl b) H) := by
  intro pins s σ H xs us Q I r h
  obtain ⟨c, cv, b, rfl, hcv, e, hd, q⟩ := h
  obtain ⟨u1, u2, rfl, r1, r2⟩ := vals2 r
  cases (show u1 = Value.ref a from r1)
  obtain rfl := hcv.eq r2
  have pin := (I.pin (a, oe) (List.mem_append.mpr (.inl List.mem_cons_self))).1
  obtain ⟨fs, hfs⟩ := hd
  obtain ⟨_, ⟨ob, _, _, hob, _⟩, _⟩ := I.hok dd _ hfs
  have J : PySem.W.InstAt s.heap a oe D (some ob) := by
    obtain ⟨oc, od, oda, osl⟩ := oe
    obtain ⟨vs, hv⟩ := hf
    obtain ⟨h1, h2⟩ := hz
    dsimp only at h1 h2 hv
    subst h1 h2 hv
    exact ⟨pin, rfl, rfl, hob⟩
  have cl : (PySem.W.clsIn X.K D).isSome = true := by
    obtain ⟨cd, hc, _⟩ := PySem.W.any_some C.hd
    rw [hc]
    rfl
  exact PySem.W.kia_one (PySem.W.kitx_exc cl C.hg C.hk C.hs C.ha C.hn C.ht C.hm) I.kIn J e (fun z => nomatch z) fun tk => ⟨.bl b, H, I.tok tk, rfl, q⟩
theorem e_isX {t : Expr} {x : Str} {px : Pos} {a Da : Addr} {oe : Obj} {cls : Value} {d : Option Addr} {pn : List (Addr × Obj)} {args : List (Str × D)} {cv : V} {u : Value} {r : Bool} {i : Nat} (C : ExcC X.K Da) (hm : X.mg "isinstance" = none)
    (hz : Zc cls d oe) (hf : ∃ vs, oe.data = .fields vs) (hc : cls = .ref Da) (hs : S[i]? = some (.xc a d args)) (hp : PE (X.suite a ((a, oe) :: pn)) (.Name x px) (tVar i)) (hcv : ClsV cv u) (hk : PySem.W.kitOne X.K (.ref Da) u = some r)
    (ht : PE (X.suite a ((a, oe) :: pn)) t (tC cv)) (hg : Gl (X.suite a ((a, oe) :: pn)) "isinstance" := by rfl) (he1 : starEach [t] X.env = (false, eval t X.env) :: starEach [] X.env := by rfl)
    (he : starEach ((.Name x px) :: [t]) X.env = (false, eval (.Name x px) X.env) :: starEach [t] X.env := by rfl) (hpl : (backTo pos (starEach [t] X.env)).any (·.1) = false := by rfl) :
    DE (X.suite a ((a, oe) :: pn)) J S (.Call (.Name "isinstance" p) [.Name x px, t] [] pos) eB (isxM args r) := by
  cases args with
  | nil => exact ⟨fun pins s σ H Q I ⟨G, own, ok, fin⟩ => fin.elim⟩
  | cons y l =>
    refine ⟨fun pins s σ H Q I ⟨G, own, ok, fin⟩ => ?_⟩
    obtain ⟨h1, h2⟩ := ok.sl i _ hs
    rcases h2 with h2 | ⟨dd, vs, h2, h3, h4⟩
    · cases h2
    subst h2 hc
    exact (pe_callB (call_isX C hz hf) hg hm PyProof.Rows.boot_isinstance (pa_cons hp (pa_cons ht pa_nil he1) he) (by decide) (by decide) he hpl).run pins s σ H Q I ⟨.ref a, h1, cv, u, r, rfl, hcv, hk, ⟨_, h3⟩, fin _ G H (Grow.refl ok.gh) (.bl r)⟩
/-! ### try: .. except B as n: .., one class c under B that comes -/
theorem tryB_one {c : Str} {m : M (Out β γ ρ)} {f : List (Str × D) → M (Out β γ ρ)} : tryB [c] m (fun _ a => f a) = tryM c m f := by
  cases m with
  | ok o => rfl
  | no => rfl
  | er x => simp only [tryB, tryM, List.mem_singleton]
theorem ss_tryS {cn cb n : Str} {i : Nat} {b₀ : Stmt} {suite : List Stmt} {np pos' : Pos} {mB : M (Out β γ ρ)} {f : List (Str × D) → M (Out β γ ρ)} (C : CxD X J k) (hs : X.stack = X.env :: X.outer) (hf : X.env.frame = some X.env.locals) (hln : X.env.kindOf n = some .local) (hgl : Gl X cb) (hgm : X.mg cb = some (.ref (J.ca cb)))
    (hem : PySem.W.exmOne X.K (.ref (J.ca cn)) (.ref (J.ca cb)) = some true) (hi : X.N[i]? = some n) (hd : (cb == ("__debug__" : Str)) = false)
    (hb : ∀ (W : WX) (pn : List (Addr × Obj)) (xe : Value → Shared → Prop), CxD (X.tr pn xe) ⟨J.ca, W, J.B, S1⟩ k → DSs (X.tr pn xe) ⟨J.ca, W, J.B, S1⟩ S body N L R mB)
    (hsu : ∀ (a : Addr) (oe : Obj) (cls : Value) (d : Option Addr) (pn : List (Addr × Obj)) (args : List (Str × D)), CxS (X.suite a ((a, oe) :: pn)) (js J) k → Zc cls d oe → (∃ vs, oe.data = .fields vs) → cls = .ref (J.ca cn) → DSs (X.suite a ((a, oe) :: pn)) (js J) (S1.set i (.xc a d args)) (b₀ :: suite) N L R (f args))
    (hN : ∀ b, (N b)[i]? = some .un) (hL : ∀ b, (L b)[i]? = some .un) :
    DS X J S (.Try body [.ExceptHandler (some (.Name cb np)) (some n) (b₀ :: suite) pos'] [] [] pos) N L R (tryM cn mB f) := by
  rw [← tryB_one]
  exact ss_tryB C hs hf hln hgl hgm (fun c hc => by rw [List.mem_singleton.mp hc]; exact hem) hi hd hb (fun a oe cls d pn args Ch hz hv c hc he => hsu a oe cls d pn args Ch hz hv (by rw [he, List.mem_singleton.mp hc])) hN hL
end
end DL

namespace DL
open PySem PySem.Spec PyProof.Rows L2
variable {X : Cx} {J : Jx}
section
variable {α β γ ρ : Type} {S : List Sl} {enc : α → D} {tg a b c e : Expr} {es : List Expr} {pos p : Pos} {k j : Nat}
/-! ### range(i, j, -1) -/
theorem pe_m1 {e : Expr} (h : PE X e (tC (.int 1))) : PE X (.UnaryOp .USub e pos) (tC (.int (-1))) := pe_imp (pe_un un_neg h) fun σ H Q q => ⟨1, rfl, q⟩
def rngD (i j : Int) : List Int := (List.range (i - j).toNat).map fun (q : Nat) => i - (q : Int)
def rngDM (i j : Int) : M (List Int) := if okI i && okI j then .ok (rngD i j) else .no
def rngDL (i j : Int) : M (List Int) := if okI i && okI j && decide ((i - j).toNat ≤ line) then .ok (rngD i j) else .no
theorem rngD_len (i j : Int) : (rngD i j).length = (i - j).toNat := by unfold rngD; rw [List.length_map, List.length_range]
theorem rngD_get {i j : Int} {q : Nat} (h : q < (i - j).toNat) : (rngD i j)[q]? = some (i - q) := by
  unfold rngD; rw [List.getElem?_map, List.getElem?_range h]; rfl
theorem itd_ok {G : Hp} {i j : Int} : ItOk X J G (Itc i (-1) (i - j).toNat) ((rngD i j).map eI) := fun q H2 G2 s0 s1 s2 => by
  refine ⟨fun d hd => ?_, fun hl => ?_⟩
  · have hq : q < (i - j).toNat := by
      have := (List.getElem?_eq_some_iff.mp hd).1
      rwa [List.length_map, rngD_len] at this
    rw [List.getElem?_map, rngD_get hq] at hd
    cases hd
    refine ⟨hq, fun x H3 ⟨e1, e2⟩ => ⟨G2, by rw [e1]; exact Grow.refl s2, ?_⟩⟩
    have e3 : i + (q : Int) * -1 = i - q := by omega
    rw [e2, e3]
    exact .int _
  · rw [List.length_map, rngD_len] at hl
    exact hl
theorem i_rngD {ma mb' : M Int} (hg : Gl X "range") (hm : X.mg "range" = none) (ha : PA X [a, b, c] (tCons (tE X J S eI ma) (tCons (tE X J S eI mb') (tCons (tC (.int (-1))) tNil))))
    (hs : starEach [a, b, c] X.env = (false, eval a X.env) :: starEach [b, c] X.env := by rfl) (hpl : (backTo pos (starEach [b, c] X.env)).any (·.1) = false := by rfl) :
    DI X J S tg (.Call (.Name "range" p) [a, b, c] [] pos) eI (mb ma fun i => mb mb' fun j => rngDM i j) :=
  pi_imp (pi_range3 hg hm ha hs hpl) fun σ H Q ⟨G, own, ok, fin⟩ =>
    E_bind FinI.wish ok fin fun i v G1 H1 g ok1 d r => E_bind FinI.wish ok1 r fun j u G2 H2 g2 ok2 d2 r => by
      cases d
      cases d2
      unfold rngDM at r
      split at r
      · rename_i h
        simp only [okI, Bool.and_eq_true, decide_eq_true_eq] at h
        exact ⟨i, j, -1, _, rfl, RgC.neg h.1.1 h.1.2 h.2.1 h.2.2, r _ G2 H2 (Grow.refl ok2.gh) itd_ok⟩
      · exact r.elim
/-- list(range(i, j, -1)) -/
theorem DenL.rngD {K : PySem.W.Frag} {ca : Str → Addr} {G : Hp} (i j : Int) : DenL K ca G ((rngD i j).map V.int) ((rngD i j).map eI) := DL.DenL.of_ints _
theorem vals_down {i : Int} {acc : Array Value} {n : Nat} (h : ItemsOf (fun q v => ∃ t, v = .int (i + q * (-1)) t) acc n) : Vals ((List.range n).map fun (q : Nat) => V.int (i - q)) acc.toList := by
  have e : acc.toList.length = n := by rw [Array.length_toList]; exact h.1
  rw [← e]
  refine vals_of_get acc.toList _ fun q u hq => ?_
  obtain ⟨t, rfl⟩ := h.2 q u (by rw [← hq, Array.getElem?_toList])
  exact ⟨t, by have e3 : i + (q : Int) * -1 = i - q := by omega
               rw [e3]⟩
theorem o_rngD {ma mb' : M Int} {p2 pos2 : Pos} (hc : X.calm = true) (hm : X.mg "list" = none) (hm2 : X.mg "range" = none) (ha : PA X [a, b, c] (tCons (tE X J S eI ma) (tCons (tE X J S eI mb') (tCons (tC (.int (-1))) tNil)))) (hg : Gl X "list" := by rfl) (hg2 : Gl X "range" := by rfl)
    (hs : starEach [a, b, c] X.env = (false, eval a X.env) :: starEach [b, c] X.env := by rfl) (hpl : (backTo pos2 (starEach [b, c] X.env)).any (·.1) = false := by rfl)
    (nb : starEach [Expr.Call (.Name "range" p2) [a, b, c] [] pos2] X.env = (false, eval (.Call (.Name "range" p2) [a, b, c] [] pos2) X.env) :: starEach [] X.env := by rfl) :
    DO X J S (.Call (.Name "list" p) [.Call (.Name "range" p2) [a, b, c] [] pos2] [] pos) eI (mb ma fun i => mb mb' fun j => rngDL i j) := by
  refine ⟨fun pins s σ H Q I ⟨G, own, ok, fin⟩ => ?_⟩
  refine Call_ (ld_blt I hg hm boot_list (PyProof.Rows.callWith_type1 (args_cons (Call_ (ld_blt I hg2 hm2 boot_range (PyProof.Rows.callWith_type1 (thn (ha.run pos2 pins s σ H
    (fun vs H2 => ∃ (i j : Int) (G2 : Hp), vs = [.int i, .int j, .int (-1)] ∧ OkX X J G2 H2 own σ S ∧ FinO X J eI (rngDL i j) σ G2 H2 Q) I ?_) fun us s1 ⟨vs, H1, I1, r1, q1⟩ => ?_) hs hpl))) nb) nb))
  · exact E_bind FinO.wish ok fin fun i v G1 H1 g ok1 d r => E_bind FinO.wish ok1 r fun j u G2 H2 g2 ok2 d2 r => by
      cases d
      cases d2
      exact ⟨i, j, G2, rfl, ok2, r⟩
  · obtain ⟨i, j, G2, rfl, ok2, r⟩ := q1
    unfold rngDL at r
    split at r
    · rename_i h
      simp only [okI, Bool.and_eq_true, decide_eq_true_eq] at h
      cases r1 with
      | cons ra rr =>
        cases rr with
        | cons rb rr =>
          cases rr with
          | cons rc rr =>
            cases rr
            obtain ⟨t1, rfl⟩ := ra
            obtain ⟨t2, rfl⟩ := rb
            obtain ⟨t3, rfl⟩ := rc
            refine call_range_3 (by decide) (args_nil ?_) (.inl (PyProof.noPylong_small (by decide)))
            have I2 : Inv X pins σ H1 { s1 with heap := s1.heap.push { cls := .type "range", data := .fields #[.int i t1, .int j t2, .int (-1) t3] } } := I1.kept (t' := s1.toks) fun b o e => Heap.get?_push_of_some _ e
            have hN : (i - j).toNat ≤ 2 ^ 24 := Nat.le_trans h.2 (by decide)
            refine call_list_range (n := (i - j).toNat) (I2.ok.hd hc) (IsRange.new ..) (PySem.W.small_down h.1.1.1 h.1.1.2 h.1.2.1 h.1.2.2) (PySem.W.rangeSize_downNat i j) hN fun h' tk acc c' hk e' hi => ?_
            have hq := I2.hok.fresh (Nat.le_refl _)
            refine ⟨.ref _, _, I2.laid (t' := tk) hk (Nat.le_refl _) (show ObjOk X.prog X.w _ _ _ (.lst ((rngD i j).map V.int)) from ⟨?_, acc.toList, c', ?_, ?_⟩), rfl, r _ _ G2 _ (Grow.allocO ok2.gh hq) hq upd_same (Same.free ok2.gh hq) (DenL.rngD i j)⟩
            · rw [List.length_map, rngD_len]
              exact Nat.le_trans h.2 (by decide)
            · have z := vals_down hi
              unfold rngD
              rw [List.map_map]
              exact z
            · rw [Array.toArray_toList]
              exact e'
    · exact r.elim
/-! ### reversed(xs) -/
theorem itv_ok {G : Hp} {l : Addr} {vs : List V} {xs : List α} (hq : ∀ H2 G2 : Hp, Same G G2 → Same G2 H2 → SqL X.K H2 l vs) (hd : DenL X.K J.ca G vs (xs.map enc)) : ItOk X J G (Itv X.K l vs.length) (xs.reverse.map enc) := fun i H2 G2 s0 s1 s2 => by
  have hl := hd.length
  rw [List.length_map] at hl
  refine ⟨fun d h => ?_, fun h => ?_⟩
  · have hi : i < xs.length := by
      have := (List.getElem?_eq_some_iff.mp h).1
      rwa [List.length_map, List.length_reverse] at this
    rw [List.getElem?_map, List.getElem?_reverse hi, ← List.getElem?_map] at h
    obtain ⟨x, e1, e2⟩ := hd.get h
    have q := hq H2 G2 s1 s2
    rw [← hl] at e1
    refine ⟨⟨by omega, vs, x, q, e1⟩, fun y H3 ⟨e3, e4⟩ => ⟨G2, by rw [e3]; exact Grow.refl s2, ?_⟩⟩
    have := e4 vs q
    rw [e1] at this
    cases this
    exact e2.mono s1
  · rw [List.length_map, List.length_reverse] at h
    show vs.length ≤ i
    omega
theorem i_rev {m : M (List α)} (hg : Gl X "reversed") (hm : X.mg "reversed" = none) (h : PA X [e] (tCons (tE X J S (eL enc) m) tNil)) (hs : starEach [e] X.env = [(false, eval e X.env)] := by rfl) :
    DI X J S tg (.Call (.Name "reversed" p) [e] [] pos) enc (mb m fun xs => .ok xs.reverse) :=
  pi_imp (pi_reversed hg hm h hs) fun σ H Q ⟨G, own, ok, fin⟩ => E_bind FinI.wish ok fin fun xs v G1 H1 g ok1 d r => by
    obtain ⟨l, vs, rfl, h1, h2⟩ := Den.lst' d
    exact ⟨l, vs, rfl, SqL.of (ok1.gh _ _ h1), r _ G1 H1 (Grow.refl ok1.gh) (itv_ok (fun H2 G2 s1 s2 => SqL.of (s2 _ _ (s1 _ _ h1))) h2)⟩
/-! ### sorted(set(z)), a list or a tuple -/
theorem seqI_Q : SeqI X J (eQ eI) (fun z => z.2) := fun z v G H own sg d => by
  obtain ⟨b, xs⟩ := z
  cases b with
  | true => exact seqI_T xs v G H own sg d
  | false => exact seqI_L xs v G H own sg d
theorem e_pl3 {m : M (α × α × α)} (h : DE X J S a (eP3 enc enc enc) m) : DE X J S a (eT enc) (mb m fun x => .ok [x.1, x.2.1, x.2.2]) := e_conv (fun x => [x.1, x.2.1, x.2.2]) h fun _ => rfl
/-! ### an own class, a class above it -/
theorem kit_own {K : PySem.W.Frag} {C E : Addr} {b : Bool} (h0 : PySem.W.subIn K (.ref C) (.ref C) = some true) (h1 : PySem.W.isClsIn K E = true) (h2 : PySem.W.typeIn K (.ref E) = some (.type "type")) (h3 : PySem.W.subIn K (.ref C) (.ref E) = some b) : PySem.W.kitOne K (.ref C) (.ref E) = some b := by
  unfold PySem.W.kitOne
  by_cases q : C = E
  · subst q
    rw [if_pos (beq_self_eq_true _), ← h0, h3]
  · rw [if_neg (fun z => q (Value.ref.inj (beq_iff_eq.mp z)))]
    have e : ((PySem.W.clsIn K E).isSome && PySem.W.typeIn K (.ref E) == some (.type "type")) = true := by
      have z : (PySem.W.clsIn K E).isSome = true := h1
      rw [h2, z] <;> rfl
    show (if _ = true then _ else _) = _
    rw [if_pos e]
    exact h3
theorem kit_blt {K : PySem.W.Frag} {C : Addr} {T : String} {b : Bool} (h1 : PySem.W.kitMeta T = true) (h3 : PySem.W.subIn K (.ref C) (.type T) = some b) : PySem.W.kitOne K (.ref C) (.type T) = some b := by
  unfold PySem.W.kitOne
  rw [if_neg (fun z => by cases beq_iff_eq.mp z)]
  show (if _ = true then _ else _) = _
  rw [if_pos h1]
  exact h3
end
end DL

namespace DL
open PySem PySem.Spec PyProof.Rows L2
variable {X : Cx} {J : Jx}
section
variable {α β γ ρ : Type} {S : List Sl} {enc : α → D} {tg a b c e : Expr} {es : List Expr} {pos p : Pos} {k j : Nat}
/-! ### a thing that is not None here -/
def unO : Option α → M α
  | some x => .ok x
  | none => .no
@[simp] theorem unO_some (x : α) : unO (some x) = .ok x := rfl
theorem e_unO {m : M (Option α)} (h : DE X J S a (eO enc) m) : DE X J S a enc (mb m unO) := e_enc h (by
  cases m with
  | ok y =>
    cases y with
    | some x => exact ⟨fun z hz => ⟨some x, rfl, by cases hz; rfl⟩, fun x hx => by cases hx⟩
    | none => exact ⟨fun z hz => (by cases hz), fun x hx => (by cases hx)⟩
  | er x => exact ⟨fun z hz => (by cases hz), fun y hy => (by cases hy; rfl)⟩
  | no => exact ⟨fun z hz => (by cases hz), fun y hy => (by cases hy)⟩)
end
end DL

namespace DL
open PySem PySem.Spec PyProof.Rows L2
variable {X : Cx} {J : Jx}
section
variable {α β γ ρ : Type} {S : List Sl} {enc : α → D} {enb : β → D} {enc3 : γ → D} {tg a b c e : Expr} {es : List Expr} {pos p : Pos} {k j : Nat}
/-! ### optional things: equality, isinstance -/
def pdO (pd : α → PyData) : Option α → PyData
  | none => .none
  | some x => pd x
theorem pd_opt {pd : α → PyData} {n : Nat} (h : PdE enc pd n) (h1 : ∀ x, PyData.eqv (pd x) .none = false) (h2 : ∀ x, PyData.eqv .none (pd x) = false) : PdE (eO enc) (pdO pd) (n + 1) := by
  refine ⟨fun {K ca G H v x} sg d => ?_, fun x => ?_, fun x => ?_, fun x y => ?_⟩
  · cases x with
    | none => cases d; exact .non
    | some x => exact h.dp sg d
  · cases x with
    | none => rfl
    | some x => exact h.lay x
  · cases x with
    | none => simp [pdO, PyData.depth]
    | some x => exact Nat.le_succ_of_le (h.dep x)
  · cases x with
    | none =>
      cases y with
      | none => simp [pdO, PyData.eqv]
      | some y => simp [pdO, h2]
    | some x =>
      cases y with
      | none => simp [pdO, h1]
      | some y =>
        show PyData.eqv (pd x) (pd y) = true ↔ _
        rw [h.eq]
        simp
theorem pd_P3 {pd : α → PyData} {n : Nat} {pe : β → PyData} {m : Nat} {pf : γ → PyData} {l : Nat} (h : PdE enc pd n) (h' : PdE enb pe m) (h'' : PdE enc3 pf l) : PdE (eP3 enc enb enc3) (fun p => .tuple [pd p.1, pe p.2.1, pf p.2.2]) (max n (max m l) + 1) := by
  refine ⟨fun sg d => ?_, fun x => ?_, fun x => ?_, fun x y => ?_⟩
  · cases d with
    | tup q t =>
      cases t with
      | cons t1 t =>
        cases t with
        | cons t2 t =>
          cases t with
          | cons t3 t => cases t; exact .tup (same_seqT sg q) (.cons (h.dp sg t1) (.cons (h'.dp sg t2) (.cons (h''.dp sg t3) .nil)))
  · show (PyData.canLayAll0 [pd x.1, pe x.2.1, pf x.2.2]) = true
    rw [PyData.canLayAll0, PyData.canLayAll0, PyData.canLayAll0, h.lay, h'.lay, h''.lay]; rfl
  · simp only [PyData.depth, PyData.depthAll]
    have h1 := h.dep x.1
    have h2 := h'.dep x.2.1
    have h3 := h''.dep x.2.2
    omega
  · rw [PyData.eqv, PyData.eqvAll, PyData.eqvAll, PyData.eqvAll, PyData.eqvAll, Bool.and_true, Bool.and_eq_true, Bool.and_eq_true, h.eq, h'.eq, h''.eq, Prod.ext_iff, Prod.ext_iff]
theorem DenB.tupD {G H : Hp} {own : Addr → Option Nat} {v : V} {ds : List D} (sg : Same G H) (d : DenB X J G H own v (.tup ds)) : ∃ q vs, v = .ref q ∧ SqT X.K H q vs := by
  rcases d with d | ⟨_, _, _, _, h, _⟩
  · cases d with
    | tup q t => exact ⟨_, _, rfl, same_seqT sg q⟩
  · cases h
theorem ty_P {T : String} {r : Bool} {ds : α → List D} (hd : ∀ z, enc z = .tup (ds z)) (h : kitB "tuple" T = some r) : ∀ (z : α) v G H own, Same G H → DenB X J G H own v (enc z) → ∃ t', TyX X.K H v t' ∧ PySem.W.kitOne X.K t' (.type T) = some ((fun _ => r) z) :=
  fun z v G H own sg d => by
    rw [hd z] at d
    obtain ⟨q, vs, rfl, h1⟩ := DenB.tupD sg d
    exact ⟨_, sqT_ty h1, kit_ty h⟩
theorem ty_opt {u : Value} {T : String} {r r0 : Bool} (hu : u = .type T) (h : ∀ (z : α) v G H own, Same G H → DenB X J G H own v (enc z) → ∃ t', TyX X.K H v t' ∧ PySem.W.kitOne X.K t' u = some ((fun _ => r) z)) (h0 : kitB "NoneType" T = some r0) :
    ∀ (z : Option α) v G H own, Same G H → DenB X J G H own v (eO enc z) → ∃ t', TyX X.K H v t' ∧ PySem.W.kitOne X.K t' u = some ((fun z => if z.isSome = true then r else r0) z) :=
  fun z v G H own sg d => by
    cases z with
    | some x => exact h x v G H own sg d
    | none =>
      subst hu
      rcases d with d | ⟨_, _, _, _, h, _⟩
      · cases d
        exact ⟨_, .base .non, kit_ty h0⟩
      · cases h
theorem ty_HL {T : String} {r : Bool} {ds : α → List D} (hd : ∀ z, enc z = .lst (ds z)) (h : kitB "list" T = some r) : ∀ (z : α) v G H own, Same G H → DenB X J G H own v (enc z) → ∃ t', TyX X.K H v t' ∧ PySem.W.kitOne X.K t' (.type T) = some ((fun _ => r) z) :=
  fun z v G H own sg d => by
    rw [hd z] at d
    obtain ⟨q, vs, rfl, h1, h2⟩ := DenB.list sg d
    exact ⟨_, .base (.lst h1), kit_ty h⟩
/-- len of a tuple of a written length -/
theorem e_lenP {n : Int} {ds : α → List D} {m : M α} (hd : ∀ z, enc z = .tup (ds z)) (hl : ∀ z, ((ds z).length : Int) = n) (hm : X.mg "len" = none) (h : PA X [a] (tCons (tE X J S enc m) tNil)) (hg : Gl X "len" := by rfl)
    (he : starEach (a :: []) X.env = (false, eval a X.env) :: starEach [] X.env := by rfl) (hpl : (backTo pos (starEach [] X.env)).any (·.1) = false := by rfl) : DE X J S (.Call (.Name "len" p) [a] [] pos) eI (mb m fun _ => .ok n) :=
  pe_imp (pe_callB call_len_seq hg hm PySem.boot_len h (by decide) (by decide) he hpl) fun σ H Q ⟨G, own, ok, fin⟩ => E_bind Fin.wish ok fin fun z v G1 H1 g ok1 d r => by
    rw [hd z] at d
    obtain ⟨q, vs, rfl, h1, h2⟩ := Den.tuple (X := X) ok1.gh d
    refine ⟨q, vs, rfl, .inr h1, ?_⟩
    have e := hl z
    rw [← h2.length] at e
    rw [e]
    exact r _ G1 H1 (Grow.refl ok1.gh) (.int _)
end
end DL

namespace DL
open PySem PySem.Spec PyProof.Rows L2
variable {X : Cx} {J : Jx}
/-! ### a dict of a slot's own: keys are ints, values are plain -/
structure Vd {α : Type} (enc : α → D) (vd : α → V) : Prop where
  den : ∀ {K : PySem.W.Frag} {ca : Str → Addr} {G : Hp} (z : α), Den K ca G (vd z) (enc z)
  inv : ∀ {K : PySem.W.Frag} {ca : Str → Addr} {G : Hp} {v : V} {z : α}, Den K ca G v (enc z) → v = vd z
theorem vd_int : Vd eI V.int := ⟨fun z => .int z, fun d => by cases d; rfl⟩
theorem vd_bl : Vd eB V.bl := ⟨fun z => .bl z, fun d => by cases d; rfl⟩
section
variable {α : Type}
def kvV (vd : α → V) (kvs : List (Int × α)) : List (Int × V) := kvs.map fun kv => (kv.1, vd kv.2)
def hkV (kvs : List (Int × V)) : List (Key × V) := kvs.map fun kv => (Sum.inl kv.1, kv.2)
def putA (kvs : List (Int × α)) (k : Int) (z : α) : List (Int × α) := if (kvs.any fun kv => decide (kv.1 = k)) = true then kvs.map (fun kv => if kv.1 = k then (kv.1, z) else kv) else kvs ++ [(k, z)]
def getA (kvs : List (Int × α)) (k : Int) : Option α := (kvs.find? fun kv => decide (kv.1 = k)).map (·.2)
def putM (kvs : List (Int × α)) (k : Int) (z : α) : M (List (Int × α)) := if kvs.length < line then .ok (putA kvs k z) else .no
def getM (kvs : List (Int × α)) (k : Int) : M α := match getA kvs k with
  | some z => .ok z
  | none => .no
theorem get_hk (vd : α → V) (k : Int) : ∀ kvs : List (Int × α), valV (hkV (kvV vd kvs)) (Sum.inl k) = (getA kvs k).map vd
  | [] => rfl
  | p :: r => by
    have ih := get_hk vd k r
    unfold valV getA hkV kvV at *
    rw [List.map_cons, List.map_cons, List.find?_cons, List.find?_cons]
    by_cases e : p.1 = k
    · simp [e]
    · simp only [Sum.inl.injEq, e, decide_false]
      exact ih
theorem put_hk (vd : α → V) (k : Int) (z : α) (kvs : List (Int × α)) : putK (hkV (kvV vd kvs)) (Sum.inl k) (vd z) = hkV (kvV vd (putA kvs k z)) := by
  unfold putK putA hkV kvV
  have e : (((kvs.map fun kv => (kv.1, vd kv.2)).map fun kv => ((Sum.inl kv.1 : Key), kv.2)).any fun kv => decide (kv.1 = Sum.inl k)) = kvs.any fun kv => decide (kv.1 = k) := by
    rw [List.any_map, List.any_map]
    congr 1
    funext kv
    simp
  rw [e]
  by_cases q : (kvs.any fun kv => decide (kv.1 = k)) = true
  · rw [if_pos q, if_pos q, List.map_map, List.map_map, List.map_map, List.map_map]
    refine List.map_congr_left fun kv _ => ?_
    simp only [Function.comp, Sum.inl.injEq]
    by_cases h : kv.1 = k
    · simp [h]
    · simp [h]
  · rw [if_neg q, if_neg q, List.map_append, List.map_append]
    rfl
theorem hk_len (vd : α → V) (kvs : List (Int × α)) : (hkV (kvV vd kvs)).length = kvs.length := by unfold hkV kvV; rw [List.length_map, List.length_map]
end
section
variable {α β β' γ δ ρ : Type} {S S' : List Sl} {N : β → List Sl} {L : γ → List Sl} {R : ρ → RV} {enc : α → D} {vd : α → V} {a b c e tg : Expr} {es : List Expr} {pos p : Pos} {k j : Nat} {rest body : List Stmt}
theorem Ok.fresh {G H : Hp} {own : Addr → Option Nat} {σ : L2.St} {p : Addr} (ok : OkX X J G H own σ S) (hp : H p = none) : own p = none := by
  cases h : own p with
  | none => rfl
  | some i => exact absurd hp (ok.ow p i h).2.2
/-- x = {} -/
theorem ss_dnew {m : M (Out β γ ρ)} {x : Str} {pd px : Pos} {i : Nat} (hN : X.N.Nodup) (hr : DSs X J (S.set i (.dk [])) rest N L R m) (hi : X.N[i]? = some x := by rfl) (hx : Loc X.env.scope x := by first | exact Or.inl rfl | exact Or.inr rfl)
    (hs : swapsWith (.Dict [] [] pd) (some (.Name x px)) pos.line X.env = pure false := by rfl) (hf : X.fn x = true ∨ X.env.scope.names.lookup x = some .local := by first | exact .inl rfl | exact .inr rfl) :
    DSs X J S (.Assign [.Name x px] (.Dict [] [] pd) pos :: rest) N L R m :=
  pss_imp (pss_cons (ps_set (i := i) hN hi hx pe_dnewK hs hf) hr) fun Dn σ H ⟨G, own, ok, fin⟩ => fun q hq => by
    have ok1 := ok.grow (Grow.allocO (o := .dK []) ok.gh hq)
    exact ⟨G, _, ok1.setK (kvs := []) upd_same (Same.free ok.h0 hq) (Same.free ok.gh hq) (Ok.fresh ok hq), fin⟩
/-- x[k] = e -/
theorem ss_dput {m : M α} {mi : M Int} {f : List (Int × α) → M (Out β γ ρ)} {kvs : List (Int × α)} {x : Str} {ie : Expr} {px p2 : Pos} (hv : Vd enc vd) (C : CxD X J k) (i : Nat) (hs : S[i]? = some (.dk (kvV vd kvs))) (hp : PE X (.Name x px) (tVar i)) (he : DE X J S e enc m) (hi : DE X J S ie eI mi)
    (hr : ∀ ys, DSs X J (S.set i (.dk (kvV vd ys))) rest N L R (f ys)) (hw : Wk S J.Sx)
    (hsw : swapsWith e (some (.Subscript (.Name x px) ie p2)) pos.line X.env = pure false := by rfl) :
    DSs X J S (.Assign [.Subscript (.Name x px) ie p2] e pos :: rest) N L R (mb m fun z => mb mi fun j => mb (putM kvs j z) f) :=
  pss_imp (pss_cons (ps_dput (by have := C.room.units; omega) hp hi he hsw) (pss_ex hr)) fun Dn σ H ⟨G, own, ok, fin⟩ => by
    refine E_bind (FinS.wish hw) ok ⟨fin, ok⟩ fun z v G1 H1 g1 ok1 d r => ?_
    obtain ⟨q, q1, q2, q3⟩ := ok1.sl i _ hs
    refine ⟨.ref q, q1, E_bind (FinS.wish hw) ok1 r fun y u G2 H2 g2 ok2 d2 r2 => ?_⟩
    cases d2
    have hq : H2 q = some (.dK (hkV (kvV vd kvs))) := g2.h _ _ q3
    have ev := hv.inv d
    subst ev
    have r3 := r2.1
    unfold putM at r3
    split at r3
    · rename_i hl
      refine ⟨q, _, rfl, DPut.k (k := Sum.inl y) hq (by rw [hk_len]; exact Nat.lt_of_lt_of_le hl line_le), _, G2, own, ?_, r3⟩
      rw [put_hk]
      exact ok2.mutK (kvs := kvV vd (putA kvs y z)) hq q2 q1
    · exact r3.elim
/-- x[k] -/
theorem e_dget {mi : M Int} {kvs : List (Int × α)} {x : Str} {ie : Expr} {px : Pos} (hv : Vd enc vd) (C : CxD X J k) (i : Nat) (hs : S[i]? = some (.dk (kvV vd kvs))) (hp : PE X (.Name x px) (tVar i)) (hi : DE X J S ie eI mi) (hn : NoSl ie := by intro _ _; rfl) :
    DE X J S (.Subscript (.Name x px) ie pos) enc (mb mi fun j => getM kvs j) :=
  pe_imp (pe_dget (by have := C.room.units; omega) hp hi hn) fun σ H Q ⟨G, own, ok, fin⟩ => by
    obtain ⟨q, q1, q2, q3⟩ := ok.sl i _ hs
    refine ⟨.ref q, q1, E_bind Fin.wish ok fin fun y u G2 H2 g2 ok2 d2 r2 => ?_⟩
    cases d2
    have hq : H2 q = some (.dK (hkV (kvV vd kvs))) := g2.h _ _ q3
    have dg := DGet.k (k := Sum.inl y) hq
    rw [get_hk] at dg
    unfold getM at r2
    cases hg : getA kvs y with
    | none => rw [hg] at r2; exact r2.elim
    | some z =>
      rw [hg] at r2 dg
      exact ⟨q, vd z, rfl, dg, r2 _ G2 H2 (Grow.refl ok2.gh) (hv.den z)⟩
/-- x.get(k, y) -/
theorem e_dget2 {mi : M Int} {m : M α} {kvs : List (Int × α)} {x : Str} {ie : Expr} {px ap : Pos} (hv : Vd enc vd) (C : CxD X J k) (i : Nat) (hs : S[i]? = some (.dk (kvV vd kvs))) (hp : PE X (.Name x px) (tVar i)) (hi : DE X J S ie eI mi) (he : DE X J S e enc m) (hm : M2 X (.Name x px) "get" ap ie e pos := by exact ⟨rfl, rfl, rfl, rfl⟩) :
    DE X J S (.Call (.Attribute (.Name x px) "get" ap) [ie, e] [] pos) enc (mb mi fun j => mb m fun z => .ok ((getA kvs j).getD z)) :=
  pe_imp (pe_dget2 (by have := C.room.units; omega) hp hi he hm) fun σ H Q ⟨G, own, ok, fin⟩ => by
    obtain ⟨q, q1, q2, q3⟩ := ok.sl i _ hs
    refine ⟨.ref q, q1, q, rfl, .inl ⟨_, .inl q3⟩, E_bind Fin.wish ok fin fun y u G2 H2 g2 ok2 d2 r2 => E_bind Fin.wish ok2 r2 fun z w G3 H3 g3 ok3 d3 r3 => ?_⟩
    cases d2
    have hq : H3 q = some (.dK (hkV (kvV vd kvs))) := g3.h _ _ (g2.h _ _ q3)
    have dg := DGet.k (k := Sum.inl y) hq
    rw [get_hk] at dg
    have ev := hv.inv d3
    subst ev
    refine ⟨_, dg, r3 _ G3 H3 (Grow.refl ok3.gh) ?_⟩
    cases getA kvs y with
    | none => exact hv.den z
    | some y' => exact hv.den y'
/-- k in x, k not in x -/
theorem e_din {mi : M Int} {kvs : List (Int × α)} {x : Str} {ie : Expr} {px : Pos} (C : CxD X J k) (i : Nat) (hs : S[i]? = some (.dk (kvV vd kvs))) (hp : PE X (.Name x px) (tVar i)) (hi : DE X J S ie eI mi) (hb : behindInMarks .In (.Name x px) = false := by rfl) :
    DE X J S (.Compare ie [.In] [.Name x px] pos) eB (mb mi fun j => .ok (getA kvs j).isSome) :=
  pe_imp (pe_cmp (pc_din (by have := C.room.units; omega) hi hp) hb) fun σ H Q ⟨G, own, ok, fin⟩ => E_bind Fin.wish ok fin fun y u G2 H2 g2 ok2 d2 r2 => by
    cases d2
    obtain ⟨q, q1, q2, q3⟩ := ok2.sl i _ hs
    have dg := DGet.k (k := Sum.inl y) q3
    have e := get_hk vd y kvs
    unfold hkV at e
    rw [e] at dg
    refine ⟨.ref q, q1, q, _, rfl, dg, ?_⟩
    rw [Option.isSome_map]
    exact r2 _ G2 H2 (Grow.refl ok2.gh) (.bl _)
/-- list(x): its keys -/
theorem o_dlist {kvs : List (Int × α)} {x : Str} {px : Pos} (hc : X.calm = true) (hm : X.mg "list" = none) (i : Nat) (hs : S[i]? = some (.dk (kvV vd kvs))) (hp : PE X (.Name x px) (tVar i)) (hg : Gl X "list" := by rfl)
    (he : starEach ((.Name x px) :: []) X.env = (false, eval (.Name x px) X.env) :: starEach [] X.env := by rfl) (hpl : (backTo pos (starEach [] X.env)).any (·.1) = false := by rfl) :
    DO X J S (.Call (.Name "list" p) [.Name x px] [] pos) eI (.ok (kvs.map (·.1))) :=
  pe_imp (pe_callTy (call_listD hc) hg hm boot_list (pa_cons hp pa_nil) (by decide) (by decide) he hpl) fun σ H Q ⟨G, own, ok, fin⟩ => by
    obtain ⟨q, q1, q2, q3⟩ := ok.sl i _ hs
    refine ⟨.ref q, q1, q, hkV (kvV vd kvs), rfl, .inl q3, fun l hl => ?_⟩
    refine fin l _ G _ (Grow.allocO ok.gh hl) hl upd_same (Same.free ok.gh hl) ?_
    have e : ((hkV (kvV vd kvs)).map fun kv => kV kv.1) = (kvs.map (·.1)).map V.int := by
      unfold hkV kvV
      rw [List.map_map, List.map_map, List.map_map]
      rfl
    rw [e]
    exact DL.DenL.of_ints _
/-- x = dict(pairs) -/
def mergeA (kvs : List (Int × α)) : List (Int × α) := kvs.foldl (fun acc kv => putA acc kv.1 kv.2) []
theorem merge_hk (vd : α → V) : ∀ (kvs acc : List (Int × α)), mergeK (hkV (kvV vd acc)) (hkV (kvV vd kvs)) = hkV (kvV vd (kvs.foldl (fun acc kv => putA acc kv.1 kv.2) acc))
  | [], acc => rfl
  | kv :: kvs, acc => by
    have ih := merge_hk vd kvs (putA acc kv.1 kv.2)
    unfold mergeK at *
    rw [List.foldl_cons, ← ih, ← put_hk]
    rfl
theorem pairs_of {G H : Hp} (sg : Same G H) (hv : Vd enc vd) : ∀ {kvs : List (Int × α)} {vs : List V}, DenL X.K J.ca G vs (kvs.map (eP2 eI enc)) → ∃ ps : List Addr, vs = ps.map V.ref ∧ Paired (fun p (kv : Key × V) => SqT X.K H p [kV kv.1, kv.2]) ps (hkV (kvV vd kvs))
  | [], _, h => by cases h; exact ⟨[], rfl, .nil⟩
  | kv :: kvs, _, h => by
    cases h with
    | cons h1 h2 =>
      obtain ⟨ps, e, pr⟩ := pairs_of sg hv h2
      cases h1 with
      | tup q t =>
        cases t with
        | cons t1 t =>
          cases t with
          | cons t2 t =>
            cases t
            cases t1
            have ev := hv.inv t2
            subst ev
            subst e
            exact ⟨_ :: ps, rfl, .cons (same_seqT sg q) pr⟩
theorem ss_ddict {m : M (List (Int × α))} {f : List (Int × α) → M (Out β γ ρ)} {x : Str} {px p2 cp : Pos} {i : Nat} (hv : Vd enc vd) (hc : X.calm = true) (hN : X.N.Nodup) (hm : X.mg "dict" = none) (h : PA X [a] (tCons (tEb X J S (eL (eP2 eI enc)) m) tNil)) (hr : ∀ ys, DSs X J (S.set i (.dk (kvV vd ys))) rest N L R (f ys)) (hw : Wk S J.Sx)
    (hi : X.N[i]? = some x := by rfl) (hx : Loc X.env.scope x := by first | exact Or.inl rfl | exact Or.inr rfl) (hg : Gl X "dict" := by rfl)
    (he : starEach (a :: []) X.env = (false, eval a X.env) :: starEach [] X.env := by rfl) (hpl : (backTo cp (starEach [] X.env)).any (·.1) = false := by rfl)
    (hs : swapsWith (.Call (.Name "dict" p2) [a] [] cp) (some (.Name x px)) pos.line X.env = pure false := by rfl) (hf : X.fn x = true ∨ X.env.scope.names.lookup x = some .local := by first | exact .inl rfl | exact .inr rfl) :
    DSs X J S (.Assign [.Name x px] (.Call (.Name "dict" p2) [a] [] cp) pos :: rest) N L R (mb m fun z => f (mergeA z)) :=
  pss_imp (pss_cons (ps_set (i := i) hN hi hx (pe_callTy (call_dictP hc) hg hm (by decide +kernel) h (by decide) (by decide) he hpl) hs hf) (pss_ex hr)) fun Dn σ H ⟨G, own, ok, fin⟩ => by
    refine B_bind (FinS.wish hw) ok ⟨fin, ok⟩ fun z v G1 H1 g ok1 d r => ?_
    obtain ⟨q, vs, rfl, h1, h2⟩ := DenB.list ok1.gh d
    obtain ⟨ps, e, pr⟩ := pairs_of ok1.gh hv h2
    subst e
    refine ⟨q, ps, _, rfl, SqL.of h1, pr, fun l hl => ?_⟩
    have ok2 := ok1.grow (Grow.allocO (o := .dK (mergeK [] (hkV (kvV vd z)))) ok1.gh hl)
    have hm2 : mergeK [] (hkV (kvV vd z)) = hkV (kvV vd (mergeA z)) := merge_hk vd z []
    rw [hm2] at ok2 ⊢
    exact ⟨mergeA z, G1, _, ok2.setK (kvs := kvV vd (mergeA z)) upd_same (Same.free ok1.h0 hl) (Same.free ok1.gh hl) (Ok.fresh ok1 hl), r.1⟩
end
end DL

namespace DL
open PySem PySem.Spec PyProof.Rows L2
/-! ### zip of two sequences, each a list (false) or a tuple (true) -/
def itB (t : Bool) (h : Heap) (it l : Addr) (i : Nat) : Prop := if t = true then h.IsTupleIter it l i else h.IsListIter it l i
def sqB (t : Bool) (h : Heap) (l : Addr) (its : Array Value) : Prop := if t = true then h.IsTuple l its else h.IsList l its
def seqB (t : Bool) (K : PySem.W.Frag) (H : Hp) (a : Addr) (vs : List V) : Prop := if t = true then SqT K H a vs else SqL K H a vs
def obB (t : Bool) (l : Addr) : Obj := { cls := .type (if t = true then "tuple_iterator" else "list_iterator"), data := .fields #[.ref l, .int 0 0] }
theorem itB_at {t : Bool} {h h' : Heap} {it l : Addr} {i : Nat} (x : itB t h it l i) (k : ∀ o, h.get? it = some o → h'.get? it = some o) : itB t h' it l i := by
  cases t
  · exact Heap.IsListIter.at x k
  · exact Heap.IsTupleIter.at x k
theorem itB_obj {t : Bool} {h : Heap} {it l : Addr} {i : Nat} (x : itB t h it l i) : ∃ o, h.get? it = some o ∧ ∀ v, o.data ≠ .cell v := by
  cases t <;> (obtain ⟨o, e, _, d⟩ := x; exact ⟨o, e, fun v q => by rw [d] at q; cases q⟩)
theorem itB_new {t : Bool} {h : Heap} {it l : Addr} (e : h.get? it = some (obB t l)) : itB t h it l 0 := by
  cases t
  · exact ⟨_, e, rfl, rfl⟩
  · exact ⟨_, e, rfl, rfl⟩
theorem drawsB {prog : Program} {w : World} {A : Around} (t : Bool) (hh : A.handled = none) (it l : Addr) (hne : l ≠ it) (items : Array Value) :
    Draws prog w A it [it, l] items.size (fun i v => items[i]? = some v) (fun i h => itB t h it l i ∧ sqB t h l items) := by
  cases t
  · exact Draws.list hh it l hne items
  · exact Draws.tuple hh it l hne items
theorem beginsB (t : Bool) (l : Addr) (items : Array Value) : Begins (.ref l) (obB t l) fun h => sqB t h l items := by
  cases t
  · exact begins_list l items
  · exact begins_tuple l items
theorem invB {X : Cx} {pins : List (Addr × Obj)} {σ : L2.St} {H : Hp} {s : Shared} (t : Bool) {a : Addr} {xs : List V} (I : Inv X pins σ H s) (h : seqB t X.K H a xs) :
    ∃ its : List Value, Vals xs its ∧ sqB t s.heap a its.toArray ∧ a < s.heap.objs.size := by
  cases t
  · obtain ⟨its, r, p, _⟩ := I.list h
    exact ⟨its, r, p.isList, p.lt⟩
  · obtain ⟨its, r, p, _⟩ := I.tuple h
    refine ⟨its, r, p, ?_⟩
    obtain ⟨o, e, _⟩ := id p
    exact Heap.lt_size e
theorem injB {X : Cx} {pins : List (Addr × Obj)} {σ : L2.St} {H : Hp} {s : Shared} (t : Bool) {a : Addr} {xs ys : List V} (I : Inv X pins σ H s) (h : seqB t X.K H a xs) (h' : seqB t X.K H a ys) : xs = ys := by
  cases t
  · exact I.list_inj h h'
  · exact I.tuple_inj h h'
def ItzG (t1 t2 : Bool) (n : Nat) (K : PySem.W.Frag) (a b : Addr) : It :=
  ⟨fun i H => i < n ∧ ∃ (xs ys : List V) (x y : V), seqB t1 K H a xs ∧ seqB t2 K H b ys ∧ xs[i]? = some x ∧ ys[i]? = some y,
    fun i H v H' => ∃ T x y, v = .ref T ∧ H T = none ∧ H' = upd H T (.tup [x, y]) ∧ (∀ xs, seqB t1 K H a xs → xs[i]? = some x) ∧ ∀ ys, seqB t2 K H b ys → ys[i]? = some y,
    fun i H => n ≤ i ∧ ∃ xs ys : List V, seqB t1 K H a xs ∧ seqB t2 K H b ys ∧ min xs.length ys.length = n⟩
theorem turn_zipG {P : Program} {w : World} {K : PySem.W.Frag} {elts : List Expr} {kk n : Nat} {tpos : Pos} (t1 t2 : Bool) {a b z TI TO i1 i2 : Addr} (D : ZipSep2 z TI TO i1 i2 [i1, a] [i2, b]) (ha : a ≠ i1) (hb : b ≠ i2) :
    Turn P w K (.Tuple elts kk tpos) (ItzG t1 t2 n K a b) [z, TI, TO, i1, i2] z (fun i h => i ≤ n ∧ IsZip h z TI TO .none ∧ IsTupOf2 h TI (.ref i1) (.ref i2) ∧ (∃ x y, IsTupOf2 h TO x y) ∧ itB t1 h i1 a i ∧ itB t2 h i2 b i) where
  mem := List.mem_cons_self
  obj := fun i h st c hc => by
    obtain ⟨_, hz, hTI, ⟨x, y, hTO⟩, h1, h2⟩ := st
    simp only [List.mem_cons, List.not_mem_nil, or_false] at hc
    rcases hc with rfl | rfl | rfl | rfl | rfl
    · exact ⟨_, hz, fun v q => nomatch q⟩
    · exact ⟨_, hTI, fun v q => nomatch q⟩
    · exact ⟨_, hTO, fun v q => nomatch q⟩
    · exact itB_obj h1
    · exact itB_obj h2
  keep := fun i h h' st k => by
    obtain ⟨hl, hz, hTI, ⟨x, y, hTO⟩, h1, h2⟩ := st
    exact ⟨hl, k z (by simp) _ hz, k TI (by simp) _ hTI, ⟨x, y, k TO (by simp) _ hTO⟩, itB_at h1 fun o q => k i1 (by simp) o q, itB_at h2 fun o q => k i2 (by simp) o q⟩
  item := by
    intro X hP hw hK hc i pins s σ H E I hf st hg
    subst hP hw hK
    obtain ⟨hl, hz, hTI, hTO, h1, h2⟩ := st
    obtain ⟨hlt, xs, ys, x, y, hqx, hqy, hx, hy⟩ := hg
    obtain ⟨its, rv, p, _⟩ := invB t1 I hqx
    obtain ⟨its2, rv2, p2, _⟩ := invB t2 I hqy
    obtain ⟨u, hu, ru⟩ := rv.get hx
    obtain ⟨u2, hu2, ru2⟩ := rv2.get hy
    have W := WalksT.zipD2 (prog := X.prog) (w := X.w) (A := X.A) D (drawsB t1 (A := X.A.in1) (I.ok.hd hc) i1 a ha its.toArray) (drawsB t2 (A := X.A.in1) (I.ok.hd hc) i2 b hb its2.toArray)
    have hi : i < min its.toArray.size its2.toArray.size := by
      have q1 := (List.getElem?_eq_some_iff.mp hu).1
      have q2 := (List.getElem?_eq_some_iff.mp hu2).1
      simp only [List.size_toArray]
      omega
    refine W.item i s _ _ hi ⟨hz, hTI, hTO, ⟨h1, p⟩, ⟨h2, p2⟩⟩ fun T vals h' tk hP hT hIs hM hk => ?_
    obtain ⟨x1, x2, e1, e2, rfl⟩ := hP
    have e1' : x1 = u := by simpa [hu] using e1.symm
    have e2' : x2 = u2 := by simpa [hu2] using e2.symm
    subst e1' e2'
    refine ⟨_, rfl, W.go elts kk tpos i T { s with heap := h', toks := tk } _ _ hM fun h'' st'' hk2 => ?_⟩
    have hTw := W.apart i T h' hM
    have hIs2 : h''.IsTuple T #[x1, x2] := hIs.at fun o e => hk2 T o hTw e
    have new : ObjOk X.prog X.w (upd H T (.tup [x, y])) h'' T (.tup [x, y]) := ⟨by show 2 ≤ sizeLine; decide, [x1, x2], .cons ru (.cons ru2 .nil), hIs2⟩
    have kk2 : ∀ b o, b ∉ [z, TI, TO, i1, i2] → s.heap.get? b = some o → h''.get? b = some o := fun c o hc e => by
      have hc' : c ∉ [z, TO, i1, i2] := fun q => hc (by
        simp only [List.mem_cons, List.not_mem_nil, or_false] at q ⊢
        rcases q with q | q | q | q <;> simp [q])
      exact hk2 c o hc' (hk c o hc' e)
    have I1 : Inv X pins σ (upd H T (.tup [x, y])) { s with heap := h'', toks := tk } := I.turnedNew kk2 hf hT new
    obtain ⟨z2, TI2, TO2, ⟨h12, _⟩, h22, _⟩ := st''
    refine ⟨.ref T, _, I1, rfl, ⟨T, x, y, rfl, I.hok.fresh hT, rfl, fun l hq => by rw [injB t1 I hq hqx]; exact hx, fun l hq => by rw [injB t2 I hq hqy]; exact hy⟩, ⟨hlt, z2, TI2, TO2, h12, h22⟩, fun c hcm => ?_⟩
    have hne : c ≠ T := fun q => by
      subst q
      simp only [List.mem_cons, List.not_mem_nil, or_false] at hcm hTw
      rcases hcm with q | q | q | q | q
      · exact hTw (.inl q)
      · have := Heap.lt_size hTI
        rw [← q] at this
        exact absurd this (Nat.not_lt.mpr hT)
      · exact hTw (.inr (.inl q))
      · exact hTw (.inr (.inr (.inl q)))
      · exact hTw (.inr (.inr (.inr q)))
    rw [upd_ne hne]
    exact (hf c hcm).1
  done := by
    intro X hP hw hK hc i pins s σ H E I hf st hg
    subst hP hw hK
    obtain ⟨hl, hz, hTI, hTO, h1, h2⟩ := st
    obtain ⟨hge, xs, ys, hqx, hqy, hn⟩ := hg
    obtain ⟨its, rv, p, _⟩ := invB t1 I hqx
    obtain ⟨its2, rv2, p2, _⟩ := invB t2 I hqy
    have W := WalksT.zipD2 (prog := X.prog) (w := X.w) (A := X.A) D (drawsB t1 (A := X.A.in1) (I.ok.hd hc) i1 a ha its.toArray) (drawsB t2 (A := X.A.in1) (I.ok.hd hc) i2 b hb its2.toArray)
    have hi : i = min its.toArray.size its2.toArray.size := by
      have q1 := rv.length
      have q2 := rv2.length
      simp only [List.size_toArray]
      omega
    subst hi
    refine W.done s _ _ ⟨hz, hTI, hTO, ⟨h1, p⟩, ⟨h2, p2⟩⟩ fun h' tk hk => ⟨rfl, I.turnedL (ch := [z, TI, TO, i1, i2]) (fun c o hc e => ?_) hf⟩
    exact hk c o (fun q => hc (by
      simp only [List.mem_cons, List.not_mem_nil, or_false] at q ⊢
      rcases q with q | q | q | q <;> simp [q])) e
  self := fun A i s Q E st h => wpAny_pyIter_zip st.2.1 h
def iZipG (t1 t2 : Bool) (K : PySem.W.Frag) (ta : TA) : TI := fun σ H R => ta σ H fun vs H1 => ∃ a b xs ys, vs = [.ref a, .ref b] ∧ seqB t1 K H1 a xs ∧ seqB t2 K H1 b ys ∧ R (ItzG t1 t2 (min xs.length ys.length) K a b) H1
theorem pi_zipG {X : Cx} {e e2 : Expr} {ta : TA} {p pos tpos : Pos} {elts : List Expr} {kk : Nat} (t1 t2 : Bool) (hg : Gl X "zip") (hm : X.mg "zip" = none) (ha : PA X [e, e2] ta)
    (hs : starEach [e, e2] X.env = (false, eval e X.env) :: starEach [e2] X.env := by rfl) (hpl : (backTo pos (starEach [e2] X.env)).any (·.1) = false := by rfl) :
    PI X (.Tuple elts kk tpos) (.Call (.Name "zip" p) [e, e2] [] pos) (iZipG t1 t2 X.K ta) := ⟨fun pins s σ H R I h => by
  refine Call_ (ld_blt I hg hm boot_zip (callWith_type1 (thn (ha.run pos pins s σ H _ I h) fun us s1 ⟨vs, H1, I1, r1, q1⟩ => ?_) hs hpl))
  obtain ⟨a, b, xs, ys, rfl, hqx, hqy, q⟩ := q1
  obtain ⟨u1, u2, rfl, r1, r2⟩ : ∃ u1 u2, us = [u1, u2] ∧ RelV (.ref a) u1 ∧ RelV (.ref b) u2 := by
    cases r1 with
    | cons r rr =>
      cases rr with
      | cons r' rr =>
        cases rr
        exact ⟨_, _, rfl, r, r'⟩
  have e1 : u1 = .ref a := r1
  have e2 : u2 = .ref b := r2
  subst e1 e2
  obtain ⟨its, rv, p1, la⟩ := invB t1 I1 hqx
  obtain ⟨its2, rv2, p2, lb⟩ := invB t2 I1 hqy
  refine zip_begins2 (beginsB t1 a its.toArray) (beginsB t2 b its2.toArray) p1 p2 fun h' hz hTI hTO g1 g2 hsz hk => wpAny_pyIter_zip hz ?_
  refine ⟨_, _, _, _, H1, rfl, I1.kept (t' := s1.toks) hk, turn_zipG t1 t2 (zip_sep2 (N := s1.heap.objs.size) (fp1 := [a]) (fp2 := [b]) (by simpa using la) (by simpa using lb)) (Nat.ne_of_lt la) (Nat.ne_of_lt (Nat.lt_succ_of_lt lb)), ⟨Nat.zero_le _, hz, hTI, ⟨_, _, hTO⟩, itB_new g1, itB_new g2⟩, fun c hc => ?_, q⟩
  have hle : s1.heap.objs.size ≤ c := by
    simp only [List.mem_cons, List.not_mem_nil, or_false] at hc
    rcases hc with rfl | rfl | rfl | rfl | rfl <;> first | exact Nat.le_add_right _ _ | exact Nat.le_refl _
  exact I1.fpOk hle (I1.hok.fresh hle)⟩
variable {X : Cx} {J : Jx}
section
variable {α β κ ι : Type} {S : List Sl} {enc : α → D} {enb : β → D} {enk : κ → D} {enl : ι → D} {tg a b c e e2 : Expr} {es : List Expr} {pos p tpos : Pos} {k j kk : Nat}
/-- a frozen value that is a sequence of this sort -/
def SqE (X : Cx) (J : Jx) (t : Bool) (enk : κ → D) (enc : α → D) (g : κ → List α) : Prop := ∀ z v G, Den X.K J.ca G v (enk z) → ∃ a vs, v = .ref a ∧ (∀ H, Same G H → seqB t X.K H a vs) ∧ DenL X.K J.ca G vs ((g z).map enc)
theorem sqE_L : SqE X J false (eL enc) enc (fun z => z) := fun z v G d => by
  obtain ⟨a, vs, rfl, h1, h2⟩ := Den.lst' d
  exact ⟨a, vs, rfl, fun H e => SqL.of (e _ _ h1), h2⟩
theorem sqE_T : SqE X J true (eT enc) enc (fun z => z) := fun z v G d => by
  obtain ⟨a, vs, rfl, h1, h2⟩ := Den.tup' d
  exact ⟨a, vs, rfl, fun H e => same_seqT e h1, h2⟩
theorem i_zip {t1 t2 : Bool} {g1 : κ → List α} {g2 : ι → List β} {es : List Expr} {m : M κ} {n : M ι} (q1 : SqE X J t1 enk enc g1) (q2 : SqE X J t2 enl enb g2) (hg : Gl X "zip") (hm : X.mg "zip" = none) (ha : PA X [e, e2] (tCons (tE X J S enk m) (tCons (tE X J S enl n) tNil)))
    (hs : starEach [e, e2] X.env = (false, eval e X.env) :: starEach [e2] X.env := by rfl) (hpl : (backTo pos (starEach [e2] X.env)).any (·.1) = false := by rfl) :
    DI X J S (.Tuple es kk tpos) (.Call (.Name "zip" p) [e, e2] [] pos) (eP2 enc enb) (mb m fun x => mb n fun y => .ok ((g1 x).zip (g2 y))) :=
  pi_imp (pi_zipG t1 t2 hg hm ha hs hpl) fun σ H Q ⟨G, own, ok, fin⟩ => E_bind FinI.wish ok fin fun x v G1 H1 gr1 ok1 d r => E_bind FinI.wish ok1 r fun y u G2 H2 gr2 ok2 d2 r2 => by
    obtain ⟨a, xs, rfl, s1, l1⟩ := q1 x v G2 (d.mono gr2.g)
    obtain ⟨b, ys, rfl, s2, l2⟩ := q2 y u G2 d2
    have n1 := l1.length
    have n2 := l2.length
    rw [List.length_map] at n1 n2
    refine ⟨a, b, xs, ys, rfl, s1 _ ok2.gh, s2 _ ok2.gh, r2 _ G2 H2 (Grow.refl ok2.gh) fun i H3 G3 h0 h1 h2 => ⟨fun dd hd => ?_, fun hl => ?_⟩⟩
    · obtain ⟨hlt, ed⟩ := List.getElem?_eq_some_iff.mp hd
      rw [List.length_map, List.length_zip] at hlt
      have hx : i < (g1 x).length := by omega
      have hy : i < (g2 y).length := by omega
      have ed2 : dd = eP2 enc enb ((g1 x)[i], (g2 y)[i]) := by
        rw [← ed, List.getElem_map, List.getElem_zip]
      obtain ⟨w1, f1, f2⟩ := l1.get (i := i) (d := enc (g1 x)[i]) (by rw [List.getElem?_map, List.getElem?_eq_getElem hx]; rfl)
      obtain ⟨w2, f3, f4⟩ := l2.get (i := i) (d := enb (g2 y)[i]) (by rw [List.getElem?_map, List.getElem?_eq_getElem hy]; rfl)
      have p1 := s1 H3 (fun b o e => h2 _ _ (h1 _ _ e))
      have p2 := s2 H3 (fun b o e => h2 _ _ (h1 _ _ e))
      refine ⟨⟨by omega, xs, ys, w1, w2, p1, p2, f1, f3⟩, fun z H4 ⟨T, x', y', e1, e2, e3, e4, e5⟩ => ?_⟩
      subst e1 e3
      have e6 := e4 xs p1
      have e7 := e5 ys p2
      rw [f1] at e6; cases e6
      rw [f3] at e7; cases e7
      refine ⟨_, Grow.alloc h2 e2, ?_⟩
      rw [ed2]
      have sg := same_upd (o := .tup [w1, w2]) (Same.free h2 e2)
      exact .tup (.of upd_same) (.cons ((f2.mono h1).mono sg) (.cons ((f4.mono h1).mono sg) .nil))
    · rw [List.length_map, List.length_zip] at hl
      exact ⟨by omega, xs, ys, s1 H3 (fun b o e => h2 _ _ (h1 _ _ e)), s2 H3 (fun b o e => h2 _ _ (h1 _ _ e)), rfl⟩
/-! ### comprehensions over several names -/
theorem wipe_get (τ : L2.St) (us : List Nat) (m : Nat) : (L2.wipe τ us)[m]? = if m ∈ us then (if m < τ.length then some none else none) else τ[m]? := by
  induction us with
  | nil => simp [L2.wipe]
  | cons u us ih =>
    unfold L2.wipe
    by_cases hm : u = m
    · subst hm
      by_cases hl : u < τ.length
      · rw [List.getElem?_set_self (by rw [wipe_length]; exact hl)]; simp [hl]
      · rw [List.getElem?_eq_none (by rw [List.length_set, wipe_length]; omega)]; simp [hl]
    · rw [List.getElem?_set_ne hm, ih]
      simp [Ne.symm hm]
theorem wipe_set2 {σ : L2.St} {i : Nat} {v : Option V} {vs : List Nat} (h : i ∈ vs) : L2.wipe (σ.set i v) vs = L2.wipe σ vs := by
  apply List.ext_getElem?
  intro m
  rw [wipe_get, wipe_get]
  by_cases hm : m ∈ vs
  · simp [hm]
  · have : i ≠ m := fun e => hm (e ▸ h)
    rw [if_neg hm, if_neg hm, List.getElem?_set_ne this]
def GsC (X : Cx) (J : Jx) (encs : β → List D) (T : β → List Sl → List Sl) (vs : List Nat) (t : TGs) : Prop := ∀ (x : β) (us : List V) (G H : Hp) (own : Addr → Option Nat) (σ σ0 : L2.St) (S : List Sl) (Q : L2.St → Hp → Prop), Ok X.K J.ca J.B G H own σ S → L2.wipe σ vs = σ0 → DenL X.K J.ca G us (encs x) →
  (∀ σ' own', Ok X.K J.ca J.B G H own' σ' (T x S) → L2.wipe σ' vs = σ0 → own' = own → Q σ' H) → t us σ H Q
theorem gsc_nil {vs : List Nat} : GsC X J (fun _ : β => []) (fun _ S => S) vs gNil := fun x us G H own σ σ0 S Q ok hw d q => by cases d; exact ⟨rfl, q σ own ok hw rfl⟩
theorem gsc_cons {d : β → D} {encs : β → List D} {T : β → List Sl → List Sl} {i : Nat} {vs : List Nat} {t : TGs} (h : i ∈ vs) (h2 : GsC X J encs T vs t) : GsC X J (fun z => d z :: encs z) (fun z S => T z (S.set i (.fr (d z)))) vs (gCons (gName i) t) := fun x us G H own σ σ0 S Q ok hw den q => by
  cases den with
  | cons d1 d2 => exact ⟨_, _, rfl, h2 x _ G H own _ σ0 _ Q (ok.setF d1) ((wipe_set2 h).trans hw) d2 q⟩
theorem wipe_wipe (σ : L2.St) (vs : List Nat) : L2.wipe (L2.wipe σ vs) vs = L2.wipe σ vs := by
  apply List.ext_getElem?
  intro m
  rw [wipe_get, wipe_get, wipe_length]
  by_cases hm : m ∈ vs
  · simp [hm]
  · rw [if_neg hm, if_neg hm]
theorem gs_tupC {encs : α → List D} {T : α → List Sl → List Sl} {n : Nat} {vs : List Nat} {t : TGs} (h : GsC X J encs T vs t) (he : ∀ z, enc z = .tup (encs z)) (hl : ∀ z, (encs z).length = n) : GSem X J enc T vs (gTup X.K n t) := fun x v G H own σ S Q ok d q => by
  rw [he x] at d
  obtain ⟨a, us, rfl, h1, h2⟩ := Den.tup' (X := X) d
  exact ⟨a, us, rfl, same_seqT ok.gh h1, by rw [h2.length, hl], h x us G H own _ _ S Q ok (wipe_wipe σ vs) h2 q⟩
theorem pg_tupB {N' : Nat} {t : TGs} {s : Shared} {H : Hp} {scope : Scope} {cenv : Env} {fp : List Addr} (hc : X.calm = true) (h : PGs (X.blk s H scope cenv fp) es t) (hn : (assignEach es (X.blk s H scope cenv fp).env).length = N' := by rfl) (hst : (assignEach es (X.blk s H scope cenv fp).env).findIdx? (·.1) = none := by rfl) :
    PG (X.blk s H scope cenv fp) (.Tuple es kk pos) (gTup X.K N' t) := pg_tup hc h hn hst
end
section
variable {α β β' γ δ ρ : Type} {S S' : List Sl} {N : β → List Sl} {L : γ → List Sl} {R : ρ → RV} {enc : α → D} {vd : α → V} {a b c e tg : Expr} {es : List Expr} {pos p : Pos} {k j : Nat} {rest body : List Stmt}
theorem ss_dnewV (vd : α → V) {m : M (Out β γ ρ)} {x : Str} {pd px : Pos} {i : Nat} (hN : X.N.Nodup) (hr : DSs X J (S.set i (.dk (kvV vd ([] : List (Int × α))))) rest N L R m) (hi : X.N[i]? = some x := by rfl) (hx : Loc X.env.scope x := by first | exact Or.inl rfl | exact Or.inr rfl)
    (hs : swapsWith (.Dict [] [] pd) (some (.Name x px)) pos.line X.env = pure false := by rfl) (hf : X.fn x = true ∨ X.env.scope.names.lookup x = some .local := by first | exact .inl rfl | exact .inr rfl) :
    DSs X J S (.Assign [.Name x px] (.Dict [] [] pd) pos :: rest) N L R m := ss_dnew hN hr hi hx hs hf
end
end DL

namespace DL
open PySem PySem.Spec PyProof.Rows L2
/-! ### sorted(set(xs)), any number of members below the scan's bound -/
theorem up_of {l : List Int} (h : l.Pairwise (· ≤ ·)) (d : l.Nodup) : l.Pairwise (· < ·) := by
  have q := List.Pairwise.and h d
  exact q.imp fun ⟨a, b⟩ => Int.lt_iff_le_and_ne.mpr ⟨a, b⟩
section
variable {P : Program} {w : World} {A : Around} {E : Value → Shared → Prop} {s : Shared}
theorem sort_setA {a : Addr} {S : Int → Bool} {n : Nat} {Q : Value → Shared → Prop} (R : SetR w s.heap a S n) (hh : A.handled = none)
    (hQ : ∀ s' (out : List Value) (c : Nat) (p : Addr) (ns : List Int), s'.heap.get? p = some (seqObj "list" out.toArray c) ∧ s.heap.objs.size ≤ p ∧ s'.gens = s.gens ∧ s'.os = s.os ∧ (∀ b o, s.heap.get? b = some o → s'.heap.get? b = some o) →
      IntsAre out ns ∧ out.length ≤ sizeLine → ns.Pairwise (· < ·) → (∀ k, k ∈ ns ↔ S k = true) → Q (.ref p) s') :
    wpAny (model P w) A (call (.builtin "sorted") [.ref a]) Q E s := by
  obtain ⟨o, es, ep, t, q1, q2, q3, q4, q5, q6, q7, q8, q9, q10, q11⟩ := R
  have hsa : SetAt s.heap a es ep t := ⟨o, q1, q2.1, q3⟩
  refine Calls.call_function_entry kind_sorted plain_sorted entry_sorted (args_sorted1 _) ?_
  unfold Builtin.«sorted»
  refine wpAny_bind (m := checkCount "sorted" 1 1 _) (wpAny_pure (wpAny_bind (collect_set (A := A.in1) hh hsa q8 q7 q10 q11 fun s1 vs kept big gens os perm => ?_)))
  -- what came out of the set: ints, each once
  have hints : ∀ v ∈ vs, ∃ k tk, v = Value.int k tk := fun v hv => by
    obtain ⟨e, he, rfl⟩ := List.mem_map.mp (perm.mem_iff.mp hv)
    obtain ⟨k, tk, z, _⟩ := q4 e he
    exact ⟨k, tk, z⟩
  have hI := ints_of vs hints
  have hkeys : (vs.map Builtin.Re.reRawOf).Perm (es.toList.map keyOf) := by
    have z := perm.map Builtin.Re.reRawOf
    rwa [List.map_map] at z
  have hz : vs.length ≤ sizeLine := by
    have z : vs.length = es.size := by
      have z := perm.length_eq
      simpa using z
    rw [z]
    exact fits_of_scanBound q7
  refine wpAny_bind (wpAny_newList ?_ hz)
  have hnew : (s1.heap.push (seqObj "list" vs.toArray 0)).get? s1.heap.objs.size = some (seqObj "list" vs.toArray 0) := Heap.get?_push_size _ rfl
  refine wpAny_bind (wpAny_holding (wpAny_call_entry slot_list_sort ⟨_, hnew, rfl⟩ entry_list_sort (SrtO.list_sort_ord SrtO.swo_int hnew hz (fun h2 => SrtO.ints_sortable hI h2) fun out hs hb => ⟨_, rfl, wpAny_pure ⟨_, rfl, ?_⟩⟩) (args_list_sort _)))
  obtain ⟨k1, k2, k3⟩ := SrtO.ints_out hI hs hb
  obtain ⟨c, hc⟩ := sortedHeap_at (vs := vs) (out := out.toArray) hnew
  have pn := k2.trans hkeys
  refine hQ _ out c _ _ ⟨hc, big, gens, os, fun b u e => ?_⟩ ⟨k1, ?_⟩ (up_of k3 (pn.nodup_iff.mpr q5)) fun k => by rw [pn.mem_iff, ← q6 k]
  · have hb1 := Heap.lt_size (kept b u e)
    refine (sortedHeap_old (Nat.ne_of_lt hb1) ?_).trans (Heap.get?_push_of_some _ (kept b u e))
    rw [Heap.size_push]
    exact Nat.lt_succ_of_lt hb1
  · rw [hb.perm.length_eq]
    exact hz
end
variable {X : Cx} {J : Jx}
theorem cr_sortedA (hc : X.calm = true) : CallR X (.builtin "sorted") (fun vs H Q => ∃ (a : Addr) (S : Int → Bool) (n : Nat), vs = [V.ref a] ∧ H a = some (SetO X.w a S n) ∧
    ∀ (ns : List Int) (p : Addr), ns.Pairwise (· < ·) → (∀ k : Int, k ∈ ns ↔ S k = true) → H p = none → Q (.ref p) (upd H p (.lst (ns.map V.int)))) := by
  intro pins s σ H vs us Q I r h
  obtain ⟨a, S, n, rfl, ha, q⟩ := h
  rw [Vals.ref1 r]
  refine sort_setA (setO_get I ha) (I.ok.hd hc) fun s' out c p ns ⟨hg, hp, g, o, k⟩ ⟨hi, hz⟩ hs hm => ?_
  have hn : H p = none := I.hok.fresh hp
  have hl : (ns.map V.int).length ≤ sizeLine := by
    have z := (vals_of_ints hi).length
    omega
  have I2 : Inv X pins σ (upd H p (.lst (ns.map V.int))) { s with heap := s'.heap, gens := s'.gens, drawn := s'.drawn, toks := s'.toks } :=
    I.call (ch := []) (Un.laid k hp hn) (I.hok.laid k hp ⟨hl, out, c, vals_of_ints hi, hg⟩) (by rw [g]; exact I.bare) (fun _ z => nomatch z)
  have e : s' = { s with heap := s'.heap, gens := s'.gens, drawn := s'.drawn, toks := s'.toks } := by
    obtain ⟨_, _, _, _, _⟩ := s'
    obtain ⟨_, _, _, _, _⟩ := s
    cases o
    rfl
  rw [e]
  exact ⟨.ref p, _, I2, rfl, q ns p hs hm hn⟩
/-- sorted(set(xs)), fewer than 500 items -/
def sortSetB (xs : List Int) : M (List Int) := if xs.length < 500 then .ok (usort xs) else .no
theorem o_sortSetB {S : List Sl} {a : Expr} {pos p : Pos} {α : Type} {enc : α → D} {f : α → List Int} {m : M α} {p2 q2 : Pos} (hc : X.calm = true) (hm : X.mg "sorted" = none) (hm2 : X.mg "set" = none) (hq : SeqI X J enc f) (h : PA X [a] (tCons (tEb X J S enc m) tNil)) (hg : Gl X "sorted" := by rfl) (hg2 : Gl X "set" := by rfl)
    (he2 : starEach (a :: []) X.env = (false, eval a X.env) :: starEach [] X.env := by rfl) (hpl2 : (backTo q2 (starEach [] X.env)).any (·.1) = false := by rfl)
    (he : starEach (Expr.Call (.Name "set" p2) [a] [] q2 :: []) X.env = (false, eval (.Call (.Name "set" p2) [a] [] q2) X.env) :: starEach [] X.env := by rfl) (hpl : (backTo pos (starEach [] X.env)).any (·.1) = false := by rfl) :
    DO X J S (.Call (.Name "sorted" p) [.Call (.Name "set" p2) [a] [] q2] [] pos) eI (mb m fun z => sortSetB (f z)) :=
  pe_imp (pe_callB (cr_sortedA hc) hg hm (by decide +kernel) (pa_cons (pe_callTy (cr_setI hc) hg2 hm2 boot_set h (by decide) (by decide) he2 hpl2) pa_nil he) (by decide) (by decide) he hpl) fun σ H Q ⟨G, own, ok, fin⟩ => B_bind FinO.wish ok fin fun z v G1 H1 g ok1 d r => by
    obtain ⟨q, rfl, h1⟩ := hq z v _ _ _ ok1.gh d
    unfold sortSetB at r
    split at r
    · rename_i hl
      refine ⟨q, f z, rfl, h1, by omega, fun t c ht hcl => ⟨t, _, c, rfl, upd_same, fun ns l h3 h4 h6 => ?_⟩⟩
      rw [usort_eq h3 h4]
      have n1 : l ≠ t := fun z => by rw [z, upd_same] at h6; cases h6
      have hl1 : H1 l = none := by rw [upd_ne n1] at h6; exact h6
      have g1 := Grow.allocO (o := SetO X.w t (fun j => decide (j ∈ f z)) c) ok1.gh ht
      have g2 := Grow.allocO (o := .lst ((usort (f z)).map V.int)) g1.gh h6
      exact r l _ G1 _ (g1.trans g2) hl1 upd_same (Same.free ok1.gh hl1) (DL.DenL.of_ints _)
    · exact r.elim
end DL

namespace DL
open PySem PySem.Spec PyProof.Rows L2
variable {X : Cx} {J : Jx}
/-! ### a loop over a range where an exception is handled -/
def DIH (X : Cx) (J : Jx) {α : Type} (S : List Sl) (tg iter : Expr) (enc : α → D) (n : M (List α)) : Prop := L2H.PIH X tg iter (tI X J S enc n)
section
variable {α β γ δ ρ : Type} {S S' : List Sl} {N : β → List Sl} {L : γ → List Sl} {Lo : δ → List Sl} {R : ρ → RV} {enc : α → D} {rest body : List Stmt} {tg iter e c : Expr} {pos : Pos} {k : Nat}
/-- a test of a list of one's own as of a frozen one: it stays one's own behind it -/
theorem t_frz {ds : List D} {m : M Bool} {b : Bool} (i : Nat) (hs : S[i]? = some (.ow ds)) (h : DT X J (S.set i (.fr (.lst ds))) e m) (he : m = .ok b) : DT X J S e (.ok b) := pt_imp h fun σ H Q ⟨G, own, ok, fin⟩ => by
  obtain ⟨G', own', sg, ok'⟩ := ok.frz hs
  rw [he]
  exact ⟨G', own', ok', fun G1 H1 gr => fin G H1 ⟨Same.refl _, gr.h, ok.gh.trans gr.h, fun _ _ => rfl⟩⟩
theorem i_range1H {a : Expr} {p : Pos} {m : M Int} (hg : Gl X "range") (hm : X.mg "range" = none) (ha : PA X [a] (tCons (tE X J S eI m) tNil)) (hs : starEach [a] X.env = [(false, eval a X.env)] := by rfl) : DIH X J S tg (.Call (.Name "range" p) [a] [] pos) eI (mb m fun n => rngM 0 n) :=
  ⟨fun pins s σ H R I ⟨G, own, ok, fin⟩ => (L2H.pi_range1H hg hm ha hs).run pins s σ H R I (E_bind FinI.wish ok fin fun n v G1 H1 g ok1 d r => by
    cases d
    unfold rngM at r
    split at r
    · rename_i h
      simp only [okI, Bool.and_eq_true, decide_eq_true_eq] at h
      refine ⟨n, rfl, h.2.1, h.2.2, ?_⟩
      have q := r (Itr 0 (n - 0).toNat) G1 H1 (Grow.refl ok1.gh) itr_ok
      rwa [show n - 0 = n by omega] at q
    · exact r.elim)⟩
theorem ss_forH {m : M (List α)} {f : α → γ → M (Out γ γ ρ)} {T : α → List Sl → List Sl} {g : γ → M (Out β δ ρ)} (s0 : γ) (C : CxS X J k) (hpo : PassesOwn (model X.prog X.w) X.A X.env X.xe) (hi : DIH X J S tg iter enc m) (hg : DG X J tg enc T) (hw0 : Wk S (L s0)) (hw : Wk S J.Sx)
    (hb : ∀ x s, DSs X J (T x (L s)) body L L R (f x s)) (hr : ∀ s, DSs X J (L s) rest N Lo R (g s)) (hs : ∀ x, foldedSetIterable iter X.env x = pure x := by intro _; rfl) :
    DSs X J S (.For tg iter body [] pos :: rest) N Lo R (mb m fun zs => sq (forM f zs s0) g) := by
  rw [← sq_mb]
  obtain ⟨gt, hg, hgt⟩ := hg
  refine ss_cons (N := L) (ps_imp (L2H.ps_forH hpo C.hot hi hg (pss_ex fun x => pss_ex fun s => hb x s) hs) fun Dn σ H ⟨G, own, ok, fin⟩ => ?_) hr
  refine ⟨G, own, ok, ?_⟩
  have W := FinS.wish (X := X) (J := J) (N := L) (L := Lo) (R := R) (Dn := Dn) (own := own) (σ := σ) hw
  cases m with
  | er x => exact W.2.1 x G H ⟨fin, ok⟩
  | no => exact fin.elim
  | ok zs =>
    intro I G1 H1 gr io
    have fin : FinS X J L Lo R Dn G (forM f zs s0) := fin
    refine ⟨fun i m σ2 H2 => m = zs.length - i ∧ i ≤ zs.length ∧ ∃ s G2 own2, OkX X J G2 H2 own2 σ2 (L s) ∧ Same G1 G2 ∧ FinS X J L Lo R Dn G2 (forM f (zs.drop i) s), ⟨_, rfl, Nat.zero_le _, s0, G1, own, (ok.grow gr).weak hw0, Same.refl _, by rw [List.drop_zero]; exact fin.mono gr.g⟩, ?_⟩
    rintro i m σ2 H2 ⟨rfl, hile, s, G2, own2, ok2, s12, fin2⟩
    by_cases hlt : i < zs.length
    · have hd : (zs.map enc)[i]? = some (enc zs[i]) := by rw [List.getElem?_map, List.getElem?_eq_getElem hlt]; rfl
      obtain ⟨go, yld⟩ := (io i H2 G2 ok2.h0 s12 ok2.gh).1 _ hd
      rw [List.drop_eq_getElem_cons hlt] at fin2
      refine .inr ⟨go, fun σ' H' => zs.length - (i + 1) = zs.length - (i + 1) ∧ i + 1 ≤ zs.length ∧ ∃ s G2 own2, OkX X J G2 H' own2 σ' (L s) ∧ Same G1 G2 ∧ FinS X J L Lo R Dn G2 (forM f (zs.drop (i + 1)) s), fun σ' H' n => ⟨_, by omega, n⟩, fun x H3 y => ?_⟩
      obtain ⟨G3, gr3, den⟩ := yld x H3 y
      refine hgt zs[i] x G3 H3 own2 σ2 (L s) _ (ok2.grow gr3) den fun σ4 own4 ok4 => ⟨zs[i], s, G3, own4, ok4, ?_⟩
      have again : ∀ {s' : γ}, FinS X J L Lo R Dn G2 (forM f (zs.drop (i + 1)) s') → ∀ σ' G' H' own', Same G3 G' → OkX X J G' H' own' σ' (L s') → zs.length - (i + 1) = zs.length - (i + 1) ∧ i + 1 ≤ zs.length ∧ ∃ s G2 own2, OkX X J G2 H' own2 σ' (L s) ∧ Same G1 G2 ∧ FinS X J L Lo R Dn G2 (forM f (zs.drop (i + 1)) s) :=
        fun {s'} q σ' G' H' own' sg ok' => ⟨rfl, hlt, s', G', own', ok', s12.trans (gr3.g.trans sg), q.mono (gr3.g.trans sg)⟩
      unfold forM at fin2
      cases hf : f zs[i] s with
      | ok o =>
        rw [hf] at fin2
        cases o with
        | nx s' => exact fun σ' G' H' own' sg ok' => again fin2 σ' G' H' own' sg ok'
        | ct s' => exact fun σ' G' H' own' sg ok' => again fin2 σ' G' H' own' sg ok'
        | bk s' => exact fun σ' G' H' own' sg ok' => fin2 σ' G' H' own' (gr3.g.trans sg) ok'
        | rt r => exact fin2
      | er x => rw [hf] at fin2; exact FinS.mono (n := .er x) (N := L) (L := L) (R := R) (Dn := ⟨_, _, _, _⟩) fin2 gr3.g
      | no => rw [hf] at fin2; exact fin2.elim
    · have he : i = zs.length := by omega
      subst he
      rw [List.drop_length] at fin2
      exact .inl ⟨(io _ H2 G2 ok2.h0 s12 ok2.gh).2 (by rw [List.length_map]; exact Nat.le_refl _), fin2 σ2 G2 H2 own2 (Same.refl _) ok2⟩
end
theorem fn_okH2 {P : Program} {w : World} {K : PySem.W.Frag} {mg : Str → Option Value} {base : Heap} {x qual : Str} {st : Stmt} {f : Addr} {fd : FuncData} {Ns ps : List Str} {k n : Nat} {ca : Str → Addr} {α β γ ρ : Type} {encA : α → List Sl} {R : ρ → RV} {Nx : α → β → List Sl} {L : α → γ → List Sl} {code : α → M (Out β γ ρ)}
    (F : Fun K x qual st f fd) (S : FnScope Ns ps (defScope st)) (hl : ∀ a, (encA a).length = ps.length) (hn : ps.length + n = Ns.length)
    (hb : ∀ (cdv : Value) (A : Around) (outer : List Env) (s : Shared) (G H : Hp) (E : XK) (a : α) (q : Addr × Obj), CxS (L2H.cxH (L2N.CX P w) P w K mg base Ns qual (defScope st) f cdv A outer s H E q) (jx ca E G H) k →
      PassesOwn (model (L2H.cxH (L2N.CX P w) P w K mg base Ns qual (defScope st) f cdv A outer s H E q).prog (L2H.cxH (L2N.CX P w) P w K mg base Ns qual (defScope st) f cdv A outer s H E q).w) (L2H.cxH (L2N.CX P w) P w K mg base Ns qual (defScope st) f cdv A outer s H E q).A (L2H.cxH (L2N.CX P w) P w K mg base Ns qual (defScope st) f cdv A outer s H E q).env (L2H.cxH (L2N.CX P w) P w K mg base Ns qual (defScope st) f cdv A outer s H E q).xe →
      DSs (L2H.cxH (L2N.CX P w) P w K mg base Ns qual (defScope st) f cdv A outer s H E q) (jx ca E G H) (encA a ++ List.replicate n .un) (defBody st) (Nx a) (L a) R (code a)) :
    L2H.FnH P w K mg base (L2N.CX P w) (k + 1) f fd ps (spF K ca encA fun a => fnO R (code a)) := by
  obtain ⟨oc, od, kV, doc, pm, an, cdv, ct, osl, rfl, lk, hcd⟩ := F.ex
  refine L2H.fn_ofH lk hcd S (fun vs H Q E ⟨a, G, e, d, r⟩ => by rw [d.length, hl a]) fun A outer s H vs Q E q hot hr ⟨a, G, e, d, r⟩ => ?_
  have C : CxS (L2H.cxH (L2N.CX P w) P w K mg base Ns qual (defScope st) f cdv A outer s H E q) (jx ca E G H) k :=
    ⟨⟨q, hot, List.mem_singleton.mpr rfl⟩, hr, L2N.takes_of rfl rfl rfl rfl, S.nd⟩
  refine ⟨_, hb cdv A outer s G H E a q C (passes_of rfl), G, _, ok_start e d (by rw [hl a]; omega), ?_⟩
  have r' : spR K ca G H (fnO R (code a)) Q E := r
  cases hc : code a with
  | ok o =>
    rw [hc] at r'
    cases o with
    | nx b => exact fun σ' G' H' own' sg ok' => r' .non G' H' ok'.base .non
    | rt q =>
      have r2 : spR K ca G H (.ok (R q)) Q E := r'
      show RtK _ _ (R q) Q
      cases hR : R q with
      | fr d => rw [hR] at r2; exact r2
      | ow ds => rw [hR] at r2; exact fun p vs G' H' g h1 h2 h3 h4 => r2 p vs G' H' g h1 h2 h3 h4
      | op ds d => rw [hR] at r2; exact fun t p u vs G' H' g h1 h2 h3 h4 h5 h6 => r2 t p u vs G' H' g h1 h2 h3 h4 h5 h6
    | bk c => exact r'.elim
    | ct c => exact r'.elim
  | er x =>
    rw [hc] at r'
    exact fun cls d σ' G' H' own' sg ok' ra => r' cls d G' H' ok'.base ra
  | no => rw [hc] at r'; exact r'.elim
end DL

namespace DL
open PySem PySem.Spec PyProof.Rows L2
variable {X : Cx} {J : Jx}
/-! ### a pair whose first part is a new list of one's own -/
def FinPq (X : Cx) (J : Jx) {α β : Type} (enc : α → D) (enb : β → D) (n : M (List α × β)) (σ : L2.St) (G H : Hp) (Q : VK) : Prop := match n with
  | .ok z => ∀ t p u vs G' H', Grow G H G' H' → H p = none → H' p = some (.lst vs) → G' p = none → SqT X.K G' t [.ref p, u] → DenL X.K J.ca G' vs (z.1.map enc) → Den X.K J.ca G' u (enb z.2) → Q (.ref t) H'
  | .er x => ErK X.K J.ca x G H fun cls d H' => J.W cls d σ H'
  | .no => False
def DPr (X : Cx) (J : Jx) {α β : Type} (S : List Sl) (e : Expr) (enc : α → D) (enb : β → D) (n : M (List α × β)) : Prop := PE X e fun σ H Q => ∃ G own, OkX X J G H own σ S ∧ FinPq X J enc enb n σ G H Q
def spP (K : PySem.W.Frag) (ca : Str → Addr) {α β ρ : Type} (encA : α → List Sl) (enc : β → D) (enb : ρ → D) (code : α → M (List β × ρ)) : Sp := spF K ca encA fun a => mb (code a) fun r => .ok (.op (r.1.map enc) (enb r.2))
/-- what a test says though it raises is not told -/
def noE {α : Type} (m : M α) : M α := match m with
  | .er _ => .no
  | m => m
theorem noE_ok {α : Type} (x : α) : noE (.ok x) = .ok x := rfl
section
variable {α β γ δ ρ κ : Type} {S S' : List Sl} {N : β → List Sl} {L : γ → List Sl} {R : ρ → RV} {enc : α → D} {enb : δ → D} {a b c e : Expr} {es : List Expr} {pos p : Pos} {k j : Nat} {rest body : List Stmt} {f : Addr} {fd : FuncData} {ps : List Str} {x : Str} {encs : κ → List Sl}
theorem FinPq.grow {n : M (List α × δ)} {σ : L2.St} {G H G' H' : Hp} {Q : VK} (f : FinPq X J enc enb n σ G H Q) (g : Grow G H G' H') : FinPq X J enc enb n σ G' H' Q := by
  cases n with
  | ok z => exact fun t p u vs G2 H2 g2 hp hq hg ht d d2 => f t p u vs G2 H2 (g.trans g2) (none_back g hp) hq hg ht d d2
  | er x => exact ErK.grow f g
  | no => exact f
theorem FinPq.wish {σ : L2.St} {Q : VK} : Wish (fun n G H => FinPq X J enc enb n σ G H Q) (fun cls d H' => J.W cls d σ H') X.K J.ca := ⟨fun _ _ _ _ _ f g => f.grow g, fun _ _ _ f => f, fun _ _ f => f⟩
theorem Pr_bind {R : M ρ → Hp → Hp → Prop} {n : M (List α × δ)} {f : List α × δ → M ρ} {σ : L2.St} {G H : Hp} {own : Addr → Option Nat} {P : VK} (w : Wish R (fun cls d H' => J.W cls d σ H') X.K J.ca) (ok : OkX X J G H own σ S) (r : R (mb n f) G H)
    (h : ∀ z t p u vs G1 H1, Grow G H G1 H1 → OkX X J G1 H1 own σ S → H p = none → own p = none → H1 p = some (.lst vs) → G1 p = none → SqT X.K G1 t [.ref p, u] → DenL X.K J.ca G1 vs (z.1.map enc) → Den X.K J.ca G1 u (enb z.2) → R (f z) G1 H1 → P (.ref t) H1) :
    ∃ G own, OkX X J G H own σ S ∧ FinPq X J enc enb n σ G H P := by
  refine ⟨G, own, ok, ?_⟩
  cases n with
  | ok z => exact fun t p u vs G1 H1 g hp hq hg ht d d2 => h z t p u vs G1 H1 g (ok.grow g) hp (Ok.fresh ok hp) hq hg ht d d2 (w.1 _ _ _ _ _ r g)
  | er x => exact w.2.1 _ _ _ r
  | no => exact w.2.2 _ _ r
/-- frozen -/
theorem e_pr {n : M (List α × δ)} (h : DPr X J S e enc enb n) : DE X J S e (eP2 (eL enc) enb) n := pe_imp h fun σ H Q ⟨G, own, ok, fin⟩ => by
  refine ⟨G, own, ok, ?_⟩
  cases n with
  | ok z =>
    refine fun t p u vs G' H' g hp hq hg ht d d2 => fin (.ref t) (upd G' p (.lst vs)) H' ⟨g.g.trans (same_upd hg), g.h, fun b o e => ?_, fun b hb => ?_⟩ (.tup (same_seqT (same_upd hg) ht) (.cons (.lst upd_same (d.mono (same_upd hg))) (.cons (d2.mono (same_upd hg)) .nil)))
    · by_cases z : b = p
      · subst z; rw [upd_same] at e; cases e; exact hq
      · rw [upd_ne z] at e; exact g.gh _ _ e
    · have : b ≠ p := fun z => hb (z ▸ hp)
      rw [upd_ne this]; exact g.n b hb
  | er x => exact fin
  | no => exact fin
theorem fn_P {P : Program} {w : World} {K : PySem.W.Frag} {mg : Str → Option Value} {base : Heap} {ca : Str → Addr} {code : κ → M (Out β γ (List α × δ))} (h : FnOk P w K mg base (L2N.CX P w) k f fd ps (spF K ca encs fun a => fnO (fun r => .op (r.1.map enc) (enb r.2)) (code a))) :
    FnOk P w K mg base (L2N.CX P w) k f fd ps (spP K ca encs enc enb fun a => fnV .no (code a)) := h.imp (sp_imp fun a => fnO_fnV (.inl rfl))
theorem p_call {code : κ → M (List α × δ)} {n : M κ} (C : CxD X J k) (hj : j ≤ k) (F : FnOk X.prog X.w X.K X.mg X.base (L2N.CX X.prog X.w) j f fd ps (spP X.K J.ca encs enc enb code)) (hm : X.mg x = some (.ref f)) (hk : PySem.W.keepIn X.K (.ref f) = true) (hb : Binds X.K fd ps [])
    (h : DX X J S (e :: es) encs n) (hg : Gl X x := by rfl) (hdb : (x == ("__debug__" : Str)) = false := by decide) (he : starEach (e :: es) X.env = (false, eval e X.env) :: starEach es X.env := by rfl) (hpl : (backTo pos (starEach es X.env)).any (·.1) = false := by rfl) :
    DPr X J S (.Call (.Name x p) (e :: es) [] pos) enc enb (mb n code) :=
  pe_imp (pe_callSD (F.mono hj) C.room hg hm hk hb .nil (fun σ => L2N.passAt C.tk σ) h hdb he hpl) fun σ H Q ⟨G, own, ok, fin⟩ => X_bind FinPq.wish ok fin fun z vs G1 H1 g1 ok1 d r => by
    show spP X.K J.ca encs enc enb code (vs ++ []) H1 Q _
    rw [List.append_nil]
    refine ⟨z, G1, ok1.gh, d, ?_⟩
    cases hc : code z with
    | ok y => rw [hc] at r; show spR X.K J.ca G1 H1 (mb (code z) _) Q _; rw [hc]; exact fun t p u ws G' H' g h1 h2 h3 h4 h5 h6 => r t p u ws G' H' g h1 h2 h3 h4 h5 h6
    | er q => rw [hc] at r; show spR X.K J.ca G1 H1 (mb (code z) _) Q _; rw [hc]; exact fun cls dd G' H' g ra => r cls dd G' H' g ra
    | no => rw [hc] at r; exact r.elim
/-- return (x, e), x a list of its own -/
theorem ss_retP {xs : List α} {m : M δ} {g : List α × δ → ρ} {kk : Nat} {px tpos : Pos} (i : Nat) (hs : S[i]? = some (.ow (xs.map enc))) (hp : PE X (.Name x px) (tVar i)) (hb : DE X J S b enb m) (hw : Wk S J.Sx) (hR : ∀ z, R (g z) = .op (z.1.map enc) (enb z.2)) (hsb : starEach [b] X.env = (false, eval b X.env) :: starEach [] X.env := by rfl) :
    DSs X J S (.Return (some (.Tuple [.Name x px, b] kk tpos)) pos :: rest) N L R (mb m fun z => .ok (.rt (g (xs, z)))) :=
  pss_imp (pss_cons (ps_ret (pe_tup (pa_cons hp (pa_cons hb pa_nil hsb)))) pss_never) fun Dn σ H ⟨G, own, ok, fin⟩ => by
    obtain ⟨q, vs, h1, h2, h3, h4⟩ := ok.sl i _ hs
    obtain ⟨n1, n2, n3⟩ := ok.ow q i h2
    refine ⟨.ref q, h1, E_bind (FinS.wish hw) ok ⟨fin, ok⟩ fun z u G1 H1 gr ok1 d r => ?_⟩
    have rt : RtK X J (R (g (xs, z))) Dn.rt := r.1
    rw [hR] at rt
    refine ⟨small_line (by show 2 ≤ 1000; decide), fun t ht => ?_⟩
    have hq1 := gr.h _ _ h3
    have hne : q ≠ t := fun z => by rw [z, ht] at hq1; cases hq1
    have hG1 : G1 q = none := (gr.n q n3).trans n2
    have hGt := Same.free ok1.gh ht
    refine rt t q u vs _ _ (ok1.base.trans (Grow.alloc ok1.gh ht)) n1 ?_ ?_ (.of upd_same) ((h4.mono gr.g).mono (same_upd hGt)) (d.mono (same_upd hGt))
    · rw [upd_ne hne]; exact hq1
    · rw [upd_ne hne]; exact hG1
/-- x = a call that answers such a pair -/
theorem ss_asgP {m : M (List α × δ)} {f : List α × δ → M (Out β γ ρ)} {i : Nat} {x : Str} {pos' : Pos} (hN : X.N.Nodup) (he : DPr X J S e enc enb m) (hr : ∀ z, DSs X J (S.set i (.op (some (z.1.map enc)) (enb z.2))) rest N L R (f z)) (hw : Wk S J.Sx) (hi : X.N[i]? = some x := by rfl) (hx : Loc X.env.scope x := by first | exact Or.inl rfl | exact Or.inr rfl)
    (hs : swapsWith e (some (.Name x pos')) pos.line X.env = pure false := by rfl) (hf : X.fn x = true ∨ X.env.scope.names.lookup x = some .local := by first | exact .inl rfl | exact .inr rfl) :
    DSs X J S (.Assign [.Name x pos'] e pos :: rest) N L R (mb m f) :=
  pss_imp (pss_cons (ps_set (i := i) hN hi hx he hs hf) (pss_ex hr)) fun Dn σ H ⟨G, own, ok, fin⟩ =>
    Pr_bind (FinS.wish hw) ok ⟨fin, ok⟩ fun z t p u vs G1 H1 g ok1 hp ho hq hg ht d d2 r => ⟨z, G1, _, ok1.setP ht d2 hq (Same.free ok.h0 hp) hg ho d, r.1⟩
/-- a test of such a pair as of a frozen one -/
theorem t_frzP {ds : List D} {d : D} {m : M Bool} (i : Nat) (hs : S[i]? = some (.op (some ds) d)) (h : DT X J (S.set i (.fr (.tup [.lst ds, d]))) e m) : DT X J S e (noE m) := pt_imp h fun σ H Q ⟨G, own, ok, fin⟩ => by
  obtain ⟨G', own', sg, ok'⟩ := ok.frzP hs
  refine ⟨G', own', ok', ?_⟩
  cases m with
  | ok b => exact fun G1 H1 gr => fin G H1 ⟨Same.refl _, gr.h, ok.gh.trans gr.h, fun _ _ => rfl⟩
  | er y => exact fin.elim
  | no => exact fin
/-- y = x[0] -/
theorem ss_takeP {ds : List D} {d : D} {m : M (Out β γ ρ)} {i j kk : Nat} {x y : Str} {px py p2 pk : Pos} (hN : X.N.Nodup) (hij : i ≠ j) (hs : S[i]? = some (.op (some ds) d)) (hp : PE X (.Name x px) (tVar i)) (hr : DSs X J ((S.set i (.op none d)).set j (.ow ds)) rest N L R m)
    (hi : X.N[j]? = some y := by rfl) (hx : Loc X.env.scope y := by first | exact Or.inl rfl | exact Or.inr rfl)
    (hsw : swapsWith (.Subscript (.Name x px) (.Constant (.int ((0 : Nat) : Int)) kk pk) p2) (some (.Name y py)) pos.line X.env = pure false := by rfl) (hf : X.fn y = true ∨ X.env.scope.names.lookup y = some .local := by first | exact .inl rfl | exact .inr rfl) :
    DSs X J S (.Assign [.Name y py] (.Subscript (.Name x px) (.Constant (.int ((0 : Nat) : Int)) kk pk) p2) pos :: rest) N L R m :=
  pss_imp (pss_cons (ps_set (i := j) hN hi hx (pe_ix ix_tup hp pe_int (by intro _ _; rfl)) hsw hf) hr) fun Dn σ H ⟨G, own, ok, fin⟩ => by
    obtain ⟨t, w, u, h1, h2, h3, h4⟩ := ok.sl i _ hs
    obtain ⟨q, vs, rfl, e2, e3, e4⟩ := h4 ds rfl
    refine ⟨.ref t, h1, t, [.ref q, u], 0, .ref q, rfl, rfl, same_seqT ok.gh h2, atI_nat (j := 0) rfl, G, _, ok.takeP hs hij h1 h2 h3 e2 vs e3 e4, fin⟩
/-- x[1] -/
theorem e_snd {o : Option (List D)} {z : δ} {kk i : Nat} {px pk : Pos} (hs : S[i]? = some (.op o (enb z))) (hp : PE X (.Name x px) (tVar i)) : DE X J S (.Subscript (.Name x px) (.Constant (.int ((1 : Nat) : Int)) kk pk) pos) enb (.ok z) :=
  pe_imp (pe_ix ix_tup hp pe_int (by intro _ _; rfl)) fun σ H Q ⟨G, own, ok, fin⟩ => by
    obtain ⟨t, w, u, h1, h2, h3, h4⟩ := ok.sl i _ hs
    exact ⟨.ref t, h1, t, [w, u], 1, u, rfl, rfl, same_seqT ok.gh h2, atI_nat (j := 1) rfl, fin u G H (Grow.refl ok.gh) h3⟩
theorem c_isB : CmpD X J .Is eB eB fun a b => decide (a = b) := ⟨_, op_is_bl, fun x y v u G H own Q _ d1 d2 q => ⟨x, y, d1.bl, d2.bl, q⟩⟩
end
end DL

namespace DL
open PySem PySem.Spec PyProof.Rows L2
/-! ### enumerate of a list or a tuple -/
theorem new_enum {v : Value} {o : Obj} {H0 : Heap → Prop} (B : Begins v o H0) :
    Meets (Builtin.«enumerate.__new__» ⟨[.type "enumerate", v], []⟩) (fun _ R s => H0 s.heap ∧
      R (.ok (.ret (.ref (s.heap.push o).objs.size))) { s with heap := (s.heap.push o).push { cls := .type "enumerate", data := .fields #[.none, .bool false, .ref s.heap.objs.size, rawInt 0, .none, .none] } }) :=
  .of_wp fun prog w A R s h => by
    obtain ⟨hp, g, d, tk, os⟩ := s
    obtain ⟨st, h⟩ := h
    have hsub := sub_enumerate
    have first : ∀ {A' : Around} {E : Value → Shared → Prop} {Q : Value → Shared → Prop}, Q (.ref hp.objs.size) ⟨hp.push o, g, d, tk, os⟩ → wpAny (model prog w) A' (pyIter v) Q E ⟨hp, g, d, tk, os⟩ := fun q => B.iter prog w _ _ ⟨hp, g, d, tk, os⟩ _ st q
    wp_walk using first
    refine wpAny_stack_any fun stk => wpAny_pure ?_
    split
    case h_1 c _ _ _ _ _ => cases (c == Value.type "enumerate") <;> (wp_walk using first; exact ⟨_, rfl, h⟩)
    case h_2 => wp_walk using first; exact ⟨_, rfl, h⟩
theorem enum_one {prog : Program} {w : World} {A : Around} {E : Value → Shared → Prop} {s : Shared} {v : Value} {o : Obj} {H0 : Heap → Prop} {Q : Value → Shared → Prop} (B : Begins v o H0) (st : H0 s.heap)
    (h : ∀ h', IsEnum h' (s.heap.objs.size + 1) s.heap.objs.size 0 .none → h'.get? s.heap.objs.size = some o → (∀ b u, s.heap.get? b = some u → h'.get? b = some u) → Q (.ref (s.heap.objs.size + 1)) { s with heap := h' }) :
    wpAny (model prog w) A (call (.type "enumerate") [v]) Q E s := by
  refine callType_new F.called_enumerate (by decide) (F.typeCall_enumerate_1 _) (F.newCall_enumerate_1 _) (fun obj => F.args_object_init_2 obj _) F.entry_enumerate_new (new_enum B) ⟨st, ?_⟩
  have hz : (s.heap.push o).objs.size = s.heap.objs.size + 1 := Heap.size_push ..
  show _ ∧ _
  rw [hz]
  have he := Heap.get?_push_size (s.heap.push o) (o := { cls := .type "enumerate", data := .fields #[.none, .bool false, .ref s.heap.objs.size, rawInt 0, .none, .none] }) rfl
  rw [hz] at he
  exact ⟨⟨_, he, rfl⟩, h _ he (Heap.get?_push_of_some _ (Heap.get?_push_size _ B.free)) fun b u x => Heap.get?_push_of_some _ (Heap.get?_push_of_some _ x)⟩
def ItE (t : Bool) (n : Nat) (K : PySem.W.Frag) (a : Addr) : It :=
  ⟨fun i H => i < n ∧ ∃ (xs : List V) (x : V), seqB t K H a xs ∧ xs[i]? = some x,
    fun i H v H' => ∃ T x, v = .ref T ∧ H T = none ∧ H' = upd H T (.tup [.int i, x]) ∧ ∀ xs, seqB t K H a xs → xs[i]? = some x,
    fun i H => n ≤ i ∧ ∃ xs : List V, seqB t K H a xs ∧ xs.length = n⟩
theorem turn_enumG {P : Program} {w : World} {K : PySem.W.Frag} {elts : List Expr} {kk n : Nat} {tpos : Pos} (t : Bool) {a e it : Addr} (hei : e ≠ it) (hea : e ≠ a) (hai : a ≠ it) :
    Turn P w K (.Tuple elts kk tpos) (ItE t n K a) [e, it] e (fun i h => i ≤ n ∧ (∃ old, IsEnum h e it (0 + (i : Int)) old) ∧ itB t h it a i) where
  mem := List.mem_cons_self
  obj := fun i h st c hc => by
    obtain ⟨_, ⟨old, he⟩, h1⟩ := st
    simp only [List.mem_cons, List.not_mem_nil, or_false] at hc
    rcases hc with rfl | rfl
    · exact ⟨_, he, fun v q => nomatch q⟩
    · exact itB_obj h1
  keep := fun i h h' st k => by
    obtain ⟨hl, ⟨old, he⟩, h1⟩ := st
    exact ⟨hl, ⟨old, k e (by simp) _ he⟩, itB_at h1 fun o q => k it (by simp) o q⟩
  item := by
    intro X hP hw hK hc i pins s σ H E I hf st hg
    subst hP hw hK
    obtain ⟨hl, he, h1⟩ := st
    obtain ⟨hlt, xs, x, hqx, hx⟩ := hg
    obtain ⟨its, rv, p, _⟩ := invB t I hqx
    obtain ⟨u, hu, ru⟩ := rv.get hx
    have W := WalksT.enumFrom (prog := X.prog) (w := X.w) (A := X.A) 0 (drawsB t (A := X.A.in1) (I.ok.hd hc) it a hai its.toArray) e hei (by simp [hei, hea]) (by simp)
    have hi : i < its.toArray.size := by
      have q1 := (List.getElem?_eq_some_iff.mp hu).1
      simpa using q1
    refine W.item i s _ _ hi ⟨he, h1, p⟩ fun T vals h' tk hP hT hIs hM hk => ?_
    obtain ⟨tt, x1, e1, rfl⟩ := hP
    have e1' : x1 = u := by simpa [hu] using e1.symm
    subst e1'
    refine ⟨_, rfl, W.go elts kk tpos i T { s with heap := h', toks := tk } _ _ hM fun h'' st'' hk2 => ?_⟩
    have hTw := W.apart i T h' hM
    have hIs2 : h''.IsTuple T #[.int (0 + (i : Int)) tt, x1] := hIs.at fun o q => hk2 T o hTw q
    have ri : RelV (.int (i : Int)) (.int (0 + (i : Int)) tt) := ⟨tt, by rw [Int.zero_add]⟩
    have new : ObjOk X.prog X.w (upd H T (.tup [.int (i : Int), x])) h'' T (.tup [.int (i : Int), x]) := ⟨by show 2 ≤ sizeLine; decide, [.int (0 + (i : Int)) tt, x1], .cons ri (.cons ru .nil), hIs2⟩
    have kept : ∀ b o, b ∉ [e, it] → s.heap.get? b = some o → h''.get? b = some o := fun c o hc q => hk2 c o hc (hk c o hc q)
    have I1 : Inv X pins σ (upd H T (.tup [.int (i : Int), x])) { s with heap := h'', toks := tk } := I.turnedNew kept hf hT new
    obtain ⟨he2, h12, _⟩ := st''
    refine ⟨.ref T, _, I1, rfl, ⟨T, x, rfl, I.hok.fresh hT, rfl, fun l hq => by rw [injB t I hq hqx]; exact hx⟩, ⟨hlt, he2, h12⟩, fun c hcm => ?_⟩
    have hne : c ≠ T := fun q => hTw (by rw [← q]; exact hcm)
    rw [upd_ne hne]
    exact (hf c hcm).1
  done := by
    intro X hP hw hK hc i pins s σ H E I hf st hg
    subst hP hw hK
    obtain ⟨hl, he, h1⟩ := st
    obtain ⟨hge, xs, hqx, hn⟩ := hg
    obtain ⟨its, rv, p, _⟩ := invB t I hqx
    have W := WalksT.enumFrom (prog := X.prog) (w := X.w) (A := X.A) 0 (drawsB t (A := X.A.in1) (I.ok.hd hc) it a hai its.toArray) e hei (by simp [hei, hea]) (by simp)
    have hi : i = its.toArray.size := by
      have q1 := rv.length
      simp only [List.size_toArray]
      omega
    subst hi
    exact W.done s _ _ ⟨he, h1, p⟩ fun h' tk hk => ⟨rfl, I.turnedL (ch := [e, it]) hk hf⟩
  self := fun A i s Q E st h => by
    obtain ⟨_, ⟨old, he⟩, _⟩ := st
    exact wpAny_pyIter_enum he h
def iEnumG (t : Bool) (K : PySem.W.Frag) (ta : TA) : TI := fun σ H R => ta σ H fun vs H1 => ∃ a xs, vs = [.ref a] ∧ seqB t K H1 a xs ∧ R (ItE t xs.length K a) H1
theorem pi_enumG {X : Cx} {e : Expr} {ta : TA} {p pos tpos : Pos} {elts : List Expr} {kk : Nat} (t : Bool) (hg : Gl X "enumerate") (hm : X.mg "enumerate" = none) (ha : PA X [e] ta)
    (hs : starEach [e] X.env = [(false, eval e X.env)] := by rfl) : PI X (.Tuple elts kk tpos) (.Call (.Name "enumerate" p) [e] [] pos) (iEnumG t X.K ta) := ⟨fun pins s σ H R I h => by
  refine Call_ (ld_blt I hg hm boot_enumerate (callWith_type1 (thn (ha.run pos pins s σ H _ I h) fun us s1 ⟨vs, H1, I1, r1, q1⟩ => ?_) hs rfl))
  obtain ⟨a, xs, rfl, hqx, q⟩ := q1
  obtain ⟨u1, rfl, r9⟩ : ∃ u1, us = [u1] ∧ RelV (.ref a) u1 := by
    cases r1 with
    | cons r rr => cases rr; exact ⟨_, rfl, r⟩
  have e1 : u1 = .ref a := r9
  subst e1
  obtain ⟨its, rv, p1, la⟩ := invB t I1 hqx
  refine enum_one (beginsB t a its.toArray) p1 fun h' he g1 hk => wpAny_pyIter_enum he ?_
  refine ⟨_, _, _, _, H1, rfl, I1.kept (t' := s1.toks) hk, turn_enumG t (Nat.succ_ne_self _) (Nat.ne_of_gt (Nat.lt_succ_of_lt la)) (Nat.ne_of_lt la), ⟨Nat.zero_le _, ⟨.none, he⟩, itB_new g1⟩, fun c hc => ?_, q⟩
  have hle : s1.heap.objs.size ≤ c := by
    simp only [List.mem_cons, List.not_mem_nil, or_false] at hc
    rcases hc with rfl | rfl <;> first | exact Nat.le_add_right _ _ | exact Nat.le_refl _
  exact I1.fpOk hle (I1.hok.fresh hle)⟩
variable {X : Cx} {J : Jx}
/-- the items with their indexes -/
def enm {α : Type} (xs : List α) : List (Int × α) := (rng 0 xs.length).zip xs
theorem enm_get {α : Type} {xs : List α} {i : Nat} (h : i < xs.length) : (enm xs)[i]? = some ((i : Int), xs[i]) := by
  unfold enm
  rw [(List.getElem?_zip_eq_some (z := ((i : Int), xs[i]))).mpr ⟨by rw [rng_get (by omega)]; simp, List.getElem?_eq_getElem h⟩]
theorem enm_len {α : Type} (xs : List α) : (enm xs).length = xs.length := by unfold enm; rw [List.length_zip, rng_len]; omega
section
variable {α β β' γ δ ρ κ ι : Type} {S : List Sl} {N : β → List Sl} {L : γ → List Sl} {R : ρ → RV} {enc : α → D} {enb : β → D} {enk : κ → D} {enl : ι → D} {tg a b c e e2 : Expr} {es : List Expr} {pos p tpos : Pos} {k j kk : Nat} {rest body : List Stmt}
theorem i_enum {t : Bool} {g1 : κ → List α} {es : List Expr} {m : M κ} (q1 : SqE X J t enk enc g1) (hg : Gl X "enumerate") (hm : X.mg "enumerate" = none) (ha : PA X [e] (tCons (tE X J S enk m) tNil)) (hs : starEach [e] X.env = [(false, eval e X.env)] := by rfl) :
    DI X J S (.Tuple es kk tpos) (.Call (.Name "enumerate" p) [e] [] pos) (eP2 eI enc) (mb m fun x => .ok (enm (g1 x))) :=
  pi_imp (pi_enumG t hg hm ha hs) fun σ H Q ⟨G, own, ok, fin⟩ => E_bind FinI.wish ok fin fun x v G1 H1 gr1 ok1 d r => by
    obtain ⟨a, xs, rfl, s1, l1⟩ := q1 x v G1 d
    have n1 := l1.length
    rw [List.length_map] at n1
    refine ⟨a, xs, rfl, s1 _ ok1.gh, r _ G1 H1 (Grow.refl ok1.gh) fun i H3 G3 h0 h1 h2 => ⟨fun dd hd => ?_, fun hl => ?_⟩⟩
    · obtain ⟨hlt, ed⟩ := List.getElem?_eq_some_iff.mp hd
      rw [List.length_map, enm_len] at hlt
      rw [List.getElem?_map, enm_get hlt] at hd
      cases hd
      obtain ⟨w1, f1, f2⟩ := l1.get (i := i) (d := enc (g1 x)[i]) (by rw [List.getElem?_map, List.getElem?_eq_getElem hlt]; rfl)
      have p1 := s1 H3 (fun b o e => h2 _ _ (h1 _ _ e))
      refine ⟨⟨by omega, xs, w1, p1, f1⟩, fun z H4 ⟨T, x', e1, e2, e3, e4⟩ => ?_⟩
      subst e1 e3
      have e6 := e4 xs p1
      rw [f1] at e6; cases e6
      refine ⟨_, Grow.alloc h2 e2, ?_⟩
      have sg := same_upd (o := .tup [.int (i : Int), w1]) (Same.free h2 e2)
      exact .tup (.of upd_same) (.cons (.int _) (.cons ((f2.mono h1).mono sg) .nil))
    · rw [List.length_map, enm_len] at hl
      exact ⟨by omega, xs, s1 H3 (fun b o e => h2 _ _ (h1 _ _ e)), rfl⟩
/-- of a lent list by its name -/
theorem i_enumL {es : List Expr} {x : Str} {px : Pos} {z : List α} (i : Nat) (hs : S[i]? = some (.ln (z.map enc))) (hp : PE X (.Name x px) (tVar i)) (hg : Gl X "enumerate") (hm : X.mg "enumerate" = none) (hst : starEach [.Name x px] X.env = [(false, eval (.Name x px) X.env)] := by rfl) :
    DI X J S (.Tuple es kk tpos) (.Call (.Name "enumerate" p) [.Name x px] [] pos) (eP2 eI enc) (.ok (enm z)) :=
  pi_imp (pi_enumG false hg hm (pa_cons hp pa_nil hst) hst) fun σ H Q ⟨G, own, ok, fin⟩ => by
    obtain ⟨q, vs, h1, h2, h3⟩ := ok.sl i _ hs
    have hq := ok.h0 _ _ h2
    have n1 := h3.length
    rw [List.length_map] at n1
    refine ⟨.ref q, h1, q, vs, rfl, SqL.of hq, fin _ G H (Grow.refl ok.gh) fun i H3 G3 h0 g1 g2 => ⟨fun dd hd => ?_, fun hl => ?_⟩⟩
    · obtain ⟨hlt, ed⟩ := List.getElem?_eq_some_iff.mp hd
      rw [List.length_map, enm_len] at hlt
      rw [List.getElem?_map, enm_get hlt] at hd
      cases hd
      obtain ⟨w1, f1, f2⟩ := h3.get (i := i) (d := enc z[i]) (by rw [List.getElem?_map, List.getElem?_eq_getElem hlt]; rfl)
      have p1 : seqB false X.K H3 q vs := SqL.of (h0 _ _ h2)
      refine ⟨⟨by omega, vs, w1, p1, f1⟩, fun y H4 ⟨T, x', e1, e2, e3, e4⟩ => ?_⟩
      subst e1 e3
      have e6 := e4 vs p1
      rw [f1] at e6; cases e6
      refine ⟨_, Grow.alloc g2 e2, ?_⟩
      have sg := same_upd (o := .tup [.int (i : Int), w1]) (Same.free g2 e2)
      exact .tup (.of upd_same) (.cons (.int _) (.cons ((f2.mono g1).mono sg) .nil))
    · rw [List.length_map, enm_len] at hl
      exact ⟨by omega, vs, SqL.of (h0 _ _ h2), rfl⟩
/-! ### a < b < c -/
theorem t_chain {enc' : κ → D} {op op' : CmpOp} {t : α → β → Bool} {t' : β → κ → Bool} {m : M α} {n : M β} {o : M κ} (h1 : CmpD X J op enc enb t) (h2 : CmpD X J op' enb enc' t') (ha : DB X J S a enc m) (hb : DB X J S b enb n) (hc : DB X J S c enc' o)
    (hm : lastMarks [op, op'] [b, c] = false := by with_unfolding_all rfl) : DT X J S (.Compare a [op, op'] [b, c] pos) (mb m fun x => mb n fun y => if t x y = true then mb o fun z => .ok (t' y z) else .ok false) := by
  obtain ⟨r, ho, hr⟩ := h1
  obtain ⟨r', ho', hr'⟩ := h2
  exact pt_imp (pt_chain ho ho' ha hb hc hm) fun σ H Q ⟨G, own, ok, fin⟩ => B_bind FinT.wish ok fin fun x v G1 H1 g1 ok1 d1 r1 => B_bind FinT.wish ok1 r1 fun y u G2 H2 g2 ok2 d2 r2 => by
    refine hr x y v u G2 H2 own _ ok2.gh (d1.grow g2) d2 ⟨_, rfl, ?_⟩
    by_cases q : t x y = true
    · rw [if_pos q] at r2 ⊢
      exact B_bind FinT.wish ok2 r2 fun z w G3 H3 g3 ok3 d3 r3 => hr' y z u w G3 H3 own _ ok3.gh (d2.grow g3) d3 ⟨_, rfl, r3 G3 H3 (Grow.refl ok3.gh)⟩
    · rw [if_neg q] at r2 ⊢
      exact ⟨_, rfl, r2 G2 H2 (Grow.refl ok2.gh)⟩
/-! ### x.pop(i) -/
def popAtM (xs : List α) (i : Int) : M (α × List α) := if 0 ≤ i ∧ i < 2 ^ 62 then (match xs[i.toNat]? with
  | some x => .ok (x, xs.eraseIdx i.toNat)
  | none => .no) else .no
theorem DenL.erase {K : PySem.W.Frag} {ca : Str → Addr} {H : Hp} : ∀ {vs : List V} {ds : List D} (n : Nat), DenL K ca H vs ds → DenL K ca H (vs.eraseIdx n) (ds.eraseIdx n)
  | _, _, _, .nil => .nil
  | _, _, 0, .cons _ t => t
  | _, _, n + 1, .cons h t => .cons h (DenL.erase n t)
theorem seqIx {i : Int} {n : Nat} (h : 0 ≤ i) (h2 : i.toNat < n) : seqIndex? i n = some i.toNat := by
  have h3 : ¬ i < 0 := by omega
  have h4 : i < (n : Int) := by omega
  simp [seqIndex?, h3, h, h4]
theorem popAt_of {G H : Hp} {own : Addr → Option Nat} {σ : L2.St} {i : Nat} {xs : List α} {q : Addr} {vs : List V} {y : α} {ys : List α} {ix : Int} (ok : OkX X J G H own σ S) (h1 : σ[i]? = some (some (.ref q))) (h2 : own q = some i) (h3 : H q = some (.lst vs)) (h4 : DenL X.K J.ca G vs (xs.map enc)) (hy : popAtM xs ix = .ok (y, ys)) :
    ∃ v, 0 ≤ ix ∧ ix < 2 ^ 62 ∧ seqIndex? ix vs.length = some ix.toNat ∧ vs[ix.toNat]? = some v ∧ Den X.K J.ca G v (enc y) ∧ OkX X J G (upd H q (.lst (vs.eraseIdx ix.toNat))) own σ (S.set i (.ow (ys.map enc))) := by
  have hl := h4.length
  rw [List.length_map] at hl
  unfold popAtM at hy
  split at hy
  · rename_i hb
    split at hy
    · rename_i x hx
      cases hy
      obtain ⟨v, e1, e2⟩ := h4.get (i := ix.toNat) (d := enc y) (by rw [List.getElem?_map, hx]; rfl)
      refine ⟨v, hb.1, hb.2, seqIx hb.1 ?_, e1, e2, ok.mut h3 h2 ?_ h1⟩
      · exact (List.getElem?_eq_some_iff.mp e1).1
      · have em : ∀ (zs : List α) (n : Nat), (zs.eraseIdx n).map enc = (zs.map enc).eraseIdx n := fun zs => by
          induction zs with
          | nil => intro n; rfl
          | cons z zs ih =>
            intro n
            cases n with
            | zero => rfl
            | succ n => show enc z :: (zs.eraseIdx n).map enc = enc z :: (zs.map enc).eraseIdx n; rw [ih]
        rw [em]
        exact DenL.erase _ h4
    · cases hy
  · cases hy
theorem popAt_er {xs : List α} {ix : Int} {z : Ex} (h : popAtM xs ix = .er z) : False := by
  unfold popAtM at h
  split at h
  · split at h <;> cases h
  · cases h
theorem ss_popAt {f : List α → M (Out β γ ρ)} {mi : M Int} {xs : List α} {x : Str} {ie : Expr} {px p2 pos2 : Pos} (i : Nat) (hs : S[i]? = some (.ow (xs.map enc))) (hr : ∀ ys, DSs X J (S.set i (.ow (ys.map enc))) rest N L R (f ys)) (hw : Wk S J.Sx)
    (hb : PE X (.Call (.Attribute (.Name x px) "pop" p2) [ie] [] pos2) (tBM X.K "list" rPopAt (tVar i) (tCons (tE X J S eI mi) tNil)))
    (hsw : swapsWith (.Call (.Attribute (.Name x px) "pop" p2) [ie] [] pos2) none pos.line X.env = pure false := by rfl) :
    DSs X J S (.Expr (.Call (.Attribute (.Name x px) "pop" p2) [ie] [] pos2) pos :: rest) N L R (mb mi fun j => mb (popAtM xs j) fun y => f y.2) :=
  pss_imp (pss_cons (ps_expr hb hsw) (pss_ex hr)) fun Dn σ H ⟨G, own, ok, fin⟩ => by
    obtain ⟨q, vs, h1, h2, h3, h4⟩ := ok.sl i _ hs
    refine ⟨.ref q, h1, .inl ⟨rfl, _, SqL.of h3⟩, ?_⟩
    refine E_bind (FinS.wish hw) ok ⟨fin, ok⟩ fun ix v G1 H1 g ok1 d r => ?_
    cases d
    have hq := g.h _ _ h3
    have r1 := r.1
    cases hy : popAtM xs ix with
    | no => rw [hy] at r1; exact r1.elim
    | er z => exact (popAt_er hy).elim
    | ok y =>
      rw [hy] at r1
      obtain ⟨v, e0, e00, e1, e2, e3, ok2⟩ := popAt_of ok1 h1 h2 hq (h4.mono g.g) hy
      exact ⟨q, vs, ix, ix.toNat, v, rfl, rfl, hq, by omega, by omega, e1, e2, _, G1, own, ok2, r1⟩
/-- y.append(x.pop(i)) -/
theorem ss_appPop {f : List α → List α → M (Out β γ ρ)} {mi : M Int} {xs zs : List α} {x y : Str} {ie : Expr} {px py p2 p3 pos2 pos3 : Pos} (i l : Nat) (hil : i ≠ l) (hs : S[i]? = some (.ow (xs.map enc))) (hs2 : S[l]? = some (.ow (zs.map enc)))
    (hr : ∀ ys ws, DSs X J ((S.set i (.ow (ys.map enc))).set l (.ow (ws.map enc))) rest N L R (f ys ws)) (hw : Wk S J.Sx)
    (hb : PE X (.Call (.Attribute (.Name y py) "append" p3) [.Call (.Attribute (.Name x px) "pop" p2) [ie] [] pos2] [] pos3) (tBM X.K "list" rAppend (tVar l) (tCons (tBM X.K "list" rPopAt (tVar i) (tCons (tE X J S eI mi) tNil)) tNil)))
    (hsw : swapsWith (.Call (.Attribute (.Name y py) "append" p3) [.Call (.Attribute (.Name x px) "pop" p2) [ie] [] pos2] [] pos3) none pos.line X.env = pure false := by rfl) :
    DSs X J S (.Expr (.Call (.Attribute (.Name y py) "append" p3) [.Call (.Attribute (.Name x px) "pop" p2) [ie] [] pos2] [] pos3) pos :: rest) N L R (mb mi fun j => mb (popAtM xs j) fun q => mb (app zs q.1) fun ws => f q.2 ws) :=
  pss_imp (pss_cons (ps_expr hb hsw) (pss_ex fun ys : List α => pss_ex fun ws : List α => hr ys ws)) fun Dn σ H ⟨G, own, ok, fin⟩ => by
    obtain ⟨q, vs, h1, h2, h3, h4⟩ := ok.sl i _ hs
    obtain ⟨q', vs', h1', h2', h3', h4'⟩ := ok.sl l _ hs2
    refine ⟨.ref q', h1', .inl ⟨rfl, _, SqL.of h3'⟩, .ref q, h1, .inl ⟨rfl, _, SqL.of h3⟩, ?_⟩
    refine E_bind (FinS.wish hw) ok ⟨fin, ok⟩ fun ix v G1 H1 g ok1 d r => ?_
    cases d
    have hq := g.h _ _ h3
    have hq' := g.h _ _ h3'
    have r1 := r.1
    cases hy : popAtM xs ix with
    | no => rw [hy] at r1; exact r1.elim
    | er z => exact (popAt_er hy).elim
    | ok y =>
      rw [hy, mb_ok] at r1
      obtain ⟨v, e0, e00, e1, e2, e3, ok2⟩ := popAt_of ok1 h1 h2 hq (h4.mono g.g) hy
      refine ⟨q, vs, ix, ix.toNat, v, rfl, rfl, hq, by omega, by omega, e1, e2, ?_⟩
      have hl := h4'.length
      rw [List.length_map] at hl
      by_cases hz : zs.length < line
      · rw [app_ok hz, mb_ok] at r1
        have hne : q' ≠ q := fun z => by rw [z, h2] at h2'; exact hil (Option.some.inj h2')
        have hq2 : (upd H1 q (.lst (vs.eraseIdx ix.toNat))) q' = some (.lst vs') := by rw [upd_ne hne]; exact hq'
        have dl : DenL X.K J.ca G1 (vs' ++ [v]) ((zs ++ [y.1]).map enc) := by
          rw [List.map_append]
          exact (h4'.mono g.g).append (.cons e3 .nil)
        exact ⟨q', vs', v, rfl, rfl, hq2, by rw [hl]; exact Nat.lt_of_lt_of_le hz line_le, y.2, _, G1, own, ok2.mut hq2 h2' dl h1', r1⟩
      · unfold app at r1
        rw [if_neg hz] at r1
        exact r1.elim
/-! ### f(e, .., k = v, ..): the exceptions' wish may hang on the slots -/
theorem run_kw {X : Cx} {CX : CXT} {n : Nat} {f : Addr} {fd : FuncData} {ps ks : List Str} {sp : Sp} {E : XK} {g : List Value → List Value → List Value} {gV : List V → List V → List V} {pins : List (Addr × Obj)} {σ : L2.St} {H : Hp} {s : Shared} {Q : VK} {us ws : List Value} {vs zs : List V}
    (F : FnOk X.prog X.w X.K X.mg X.base CX k f fd ps sp) (hr : Room k X.A) (hb : KBn X.K fd ps n ks g gV) (hx : PassesAt CX X σ E) (I : Inv X pins σ H s) (r : Vals vs us) (rz : Vals zs ws) (l1 : us.length = n) (l2 : ws.length = ks.length) (h : sp (gV vs zs) H Q E) :
    wpAny (model X.prog X.w) X.A (call (.ref f) us (ks.zip ws)) (EP X pins σ Q) X.xe s := by
  have run := F.run X.A X.stack s H ⟨us, ks.zip ws⟩ (g us ws) (gV vs zs) Q E hr I.env0 (hb.to s us ws I.kIn l1 l2) (hb.rel r rz) h
  refine wpAny_call (codeAny_mono run fun res s' hq => ?_)
  match res, hq with
  | .ok (.ret u), hq => exact I.after hq
  | .error e, hq => exact hx pins H s e s' I hq
  | .ok .next, hq => exact hq.elim
  | .ok .brk, hq => exact hq.elim
  | .ok .cont, hq => exact hq.elim
theorem e_callK {enr : ρ → D} {f : Addr} {fd : FuncData} {ps ks : List Str} {x : Str} {n : Nat} {gV : List V → List V → List V} {encA : κ → List Sl} {code : κ → M ρ} {encs : α → List Sl} {enk : β → List Sl} {ma : M α} {mk : M β} {mkA : α → β → κ} {kws : List Keyword}
    (C : CxD X J k) (hj : j ≤ k) (F : FnOk X.prog X.w X.K X.mg X.base (L2N.CX X.prog X.w) j f fd ps (spE X.K J.ca encA enr code)) (hm : X.mg x = some (.ref f)) (hkp : PySem.W.keepIn X.K (.ref f) = true) (hb : ∃ g, KBn X.K fd ps n ks g gV)
    (ha : DX X J S (e :: es) encs ma) (hk : DK X J S kws enk mk) (hn : ∀ z, (encs z).length = n) (hn2 : ∀ z, (enk z).length = ks.length)
    (hA : ∀ (G H : Hp) (vs zs : List V) (z : α) (y : β), ArgL X.K J.ca G H vs (encs z) → ArgL X.K J.ca G H zs (enk y) → ArgL X.K J.ca G H (gV vs zs) (encA (mkA z y)))
    (hg : Gl X x := by rfl) (hall : (backToKw pos (keywordEach kws X.env)).all (·.1.isSome) = true := by rfl) (hks : (backToKw pos (keywordEach kws X.env)).filterMap (·.1) = ks := by rfl)
    (hdb : (x == ("__debug__" : Str)) = false := by decide) (he : starEach (e :: es) X.env = (false, eval e X.env) :: starEach es X.env := by rfl)
    (hpl : ((backTo pos (starEach (e :: es) X.env)).any (·.1) || (backToKw pos (keywordEach kws X.env)).any (·.1.isNone)) = false := by rfl) :
    DE X J S (.Call (.Name x p) (e :: es) kws pos) enr (mb ma fun z => mb mk fun y => code (mkA z y)) := by
  obtain ⟨g, hb⟩ := hb
  refine ⟨fun pins s σ H Q I ⟨G, own, ok, fin⟩ => ?_⟩
  refine wpAny_Call_Name_kw (ld_glob I hg hm ?_ hdb)
  have ta := X_bind (X := X) (J := J) (f := fun z => mb mk fun y => code (mkA z y)) (Fin.wish (enc := enr) (Q := Q)) ok fin
    (P := fun vs H1 => ∃ z G1, OkX X J G1 H1 own σ S ∧ ArgL X.K J.ca G1 H1 vs (encs z) ∧ Fin X J enr (mb mk fun y => code (mkA z y)) σ G1 H1 Q)
    fun z vs G1 H1 g1 ok1 d r => ⟨z, G1, ok1, d, r⟩
  refine PySem.W.callWith_KW (h₀ := X.base) I.ok.mod.kin hkp hall (thn (ha.run pos pins s σ H _ I ta) fun us s1 ⟨vs, H1, I1, r1, z, G1, ok1, d1, fin1⟩ => ?_) hpl he
  have tk := X_bind (X := X) (J := J) (f := fun y => code (mkA z y)) (Fin.wish (enc := enr) (Q := Q)) ok1 fin1
    (P := fun zs H2 => ∃ y G2, OkX X J G2 H2 own σ S ∧ Grow G1 H1 G2 H2 ∧ ArgL X.K J.ca G2 H2 zs (enk y) ∧ Fin X J enr (code (mkA z y)) σ G2 H2 Q)
    fun y zs G2 H2 g2 ok2 d r => ⟨y, G2, ok2, g2, d, r⟩
  refine thn (hk.run pos pins s1 σ H1 _ I1 tk) fun ws s2 ⟨zs, H2, I2, rz, y, G2, ok2, g2, d2, fin2⟩ => ⟨I2.kIn, ?_⟩
  rw [hks]
  have dv := d1.mono g2.g g2.h
  refine run_kw (F.mono hj) C.room hb (L2N.passAt C.tk σ) I2 r1 rz (by show us.length = n; rw [← r1.length, dv.length, hn]) (by rw [← rz.length, d2.length, hn2]) ?_
  refine ⟨mkA z y, G2, ok2.gh, hA G2 H2 vs zs z y dv d2, ?_⟩
  cases hc : code (mkA z y) with
  | ok r => rw [hc] at fin2; show spR X.K J.ca G2 H2 (mb (code (mkA z y)) _) Q _; rw [hc]; exact fun v G' H' g dv => fin2 v G' H' g dv
  | er q => rw [hc] at fin2; show spR X.K J.ca G2 H2 (mb (code (mkA z y)) _) Q _; rw [hc]; exact fun cls dd G' H' g ra => fin2 cls dd G' H' g ra
  | no => rw [hc] at fin2; exact fin2.elim
/-- the arguments of a call by keywords; of one that leaves its keyword-only parameters out -/
theorem ak {K : PySem.W.Frag} {ca : Str → Addr} {e1 : α → List Sl} {e2 : β → List Sl} {e3 : κ → List Sl} {mk : α → β → κ} (h : ∀ z y, e3 (mk z y) = e1 z ++ e2 y) (G H : Hp) (vs zs : List V) (z : α) (y : β) (h1 : ArgL K ca G H vs (e1 z)) (h2 : ArgL K ca G H zs (e2 y)) : ArgL K ca G H (vs ++ zs) (e3 (mk z y)) := by
  rw [h]
  have app : ∀ {us : List V} {ss : List Sl}, ArgL K ca G H us ss → ArgL K ca G H (us ++ zs) (ss ++ e2 y) := by
    intro us ss q
    induction q with
    | nil => exact h2
    | cons d t ih => exact .cons d ih
    | consL p d t ih => exact .consL p d ih
  exact app h1
theorem akd {K : PySem.W.Frag} {ca : Str → Addr} {e1 : α → List Sl} {e2 : β → List Sl} {e3 : κ → List Sl} {mk : α → β → κ} {ds : List D} {vs0 : List V} (hd : ∀ {G : Hp}, DenL K ca G vs0 ds) (h : ∀ z y, e3 (mk z y) = e1 z ++ ds.map Sl.fr) (G H : Hp) (vs zs : List V) (z : α) (y : β) (h1 : ArgL K ca G H vs (e1 z)) (_h2 : ArgL K ca G H zs (e2 y)) : ArgL K ca G H (vs ++ vs0) (e3 (mk z y)) := by
  rw [h]
  have app : ∀ {us : List V} {ss : List Sl}, ArgL K ca G H us ss → ArgL K ca G H (us ++ vs0) (ss ++ ds.map Sl.fr) := by
    intro us ss q
    induction q with
    | nil => exact ArgL.of hd
    | cons d t ih => exact .cons d ih
    | consL p d t ih => exact .consL p d ih
  exact app h1
end
/-- a def with defaults, all its parameters given -/
theorem fn_okD {P : Program} {w : World} {K : PySem.W.Frag} {mg : Str → Option Value} {base : Heap} {x qual : Str} {params : Arguments} {bd : List Stmt} {sc : Scope} {dvs : List V} {kws : List (Str × V)} {f : Addr} {fd : FuncData} {N ps : List Str} {k n : Nat} {ca : Str → Addr} {α β γ ρ : Type} {encA : α → List Sl} {R : ρ → RV} {Nx : α → β → List Sl} {L : α → γ → List Sl} {code : α → M (Out β γ ρ)}
    (F : FunD K x qual params bd sc dvs kws f fd) (S : FnScope N ps sc) (hl : ∀ a, (encA a).length = ps.length) (hn : ps.length + n = N.length)
    (hb : ∀ (cdv : Value) (A : Around) (outer : List Env) (s : Shared) (G H : Hp) (E : XK) (a : α), CxD (cxOf (L2N.CX P w) P w K mg base N qual sc f cdv A outer s H E) (jx ca E G H) k →
      DSs (cxOf (L2N.CX P w) P w K mg base N qual sc f cdv A outer s H E) (jx ca E G H) (encA a ++ List.replicate n .un) bd (Nx a) (L a) R (code a)) :
    FnOk P w K mg base (L2N.CX P w) (k + 1) f fd ps (spF K ca encA fun a => fnO R (code a)) := by
  obtain ⟨oc, od, dV, kV, doc, pm, an, cdv, ct, osl, rfl, lk, hcd, _, _⟩ := F.ex
  refine fn_of lk hcd S (fun vs H Q E ⟨a, G, e, d, r⟩ => by rw [d.length, hl a]) fun A outer s H vs Q E hr ⟨a, G, e, d, r⟩ => ?_
  have C : CxD (cxOf (L2N.CX P w) P w K mg base N qual sc f cdv A outer s H E) (jx ca E G H) k :=
    ⟨rfl, L2N.takes_of rfl rfl rfl rfl, passes_of rfl, hr, S.nd⟩
  refine ⟨_, hb cdv A outer s G H E a C, G, _, ok_start e d (by rw [hl a]; omega), ?_⟩
  have r' : spR K ca G H (fnO R (code a)) Q E := r
  cases hc : code a with
  | ok o =>
    rw [hc] at r'
    cases o with
    | nx b => exact fun σ' G' H' own' sg ok' => r' .non G' H' ok'.base .non
    | rt q =>
      have r2 : spR K ca G H (.ok (R q)) Q E := r'
      show RtK _ _ (R q) Q
      cases hR : R q with
      | fr d => rw [hR] at r2; exact r2
      | ow ds => rw [hR] at r2; exact fun p vs G' H' g h1 h2 h3 h4 => r2 p vs G' H' g h1 h2 h3 h4
      | op ds d => rw [hR] at r2; exact fun t p u vs G' H' g h1 h2 h3 h4 h5 h6 => r2 t p u vs G' H' g h1 h2 h3 h4 h5 h6
    | bk c => exact r'.elim
    | ct c => exact r'.elim
  | er x =>
    rw [hc] at r'
    exact fun cls d σ' G' H' own' sg ok' ra => r' cls d G' H' ok'.base ra
  | no => rw [hc] at r'; exact r'.elim
end DL

namespace DL
open PySem PySem.Spec PyProof.Rows L2 PySem.W
variable {X : Cx} {J : Jx}
/-! ### max(t), min(t), t a tuple of ints: max_tuple_datum, min_tuple_datum -/
section
variable {S : List Sl} {a : Expr} {pos p : Pos}
theorem maxOf_eq : ∀ (xs : List Int) (x : Int), maxOf x xs = xs.foldl max x
  | [], _ => rfl
  | y :: xs, x => by
    have ih := maxOf_eq xs (max x y)
    unfold maxOf at ih ⊢
    rw [List.foldl_cons, List.foldl_cons, ← ih]
    congr 1
    show (if decide (x < y) = true then y else x) = max x y
    by_cases q : x < y
    · rw [if_pos (decide_eq_true q), Int.max_eq_right (Int.le_of_lt q)]
    · rw [if_neg (by simpa using q), Int.max_eq_left (by omega)]
theorem minOf_eq : ∀ (xs : List Int) (x : Int), minOf x xs = xs.foldl min x
  | [], _ => rfl
  | y :: xs, x => by
    have ih := minOf_eq xs (min x y)
    unfold minOf at ih ⊢
    rw [List.foldl_cons, List.foldl_cons, ← ih]
    congr 1
    show (if decide (y < x) = true then y else x) = min x y
    by_cases q : y < x
    · rw [if_pos (decide_eq_true q), Int.min_eq_right (Int.le_of_lt q)]
    · rw [if_neg (by simpa using q), Int.min_eq_left (by omega)]
theorem cr_maxT (hc : X.calm = true) (hu : X.A.units + 64 < cLine) : CallR X (.builtin "max") (fun vs H Q => ∃ (a : Addr) (x : Int) (xs : List Int), vs = [V.ref a] ∧ SqT X.K H a ((x :: xs).map V.int) ∧ Q (.int (xs.foldl max x)) H) := by
  intro pins s σ H vs us Q I r h
  obtain ⟨a, x, xs, rfl, hs, q⟩ := h
  obtain ⟨its, rv, hl, _⟩ := I.tuple hs
  rw [Vals.ref1 r]
  refine max_tuple_datum (x := x) (xs := xs) (I.ok.hd hc) hl (HoldAll.of_ints rv.ints) (by show _ + 1 + 0 < cLine; omega) fun i v h' tk hi hh hk => ?_
  obtain ⟨as, rd⟩ := hh
  rw [maxOf_eq] at rd
  cases rd with
  | int n t => exact ⟨.int _, H, I.kept hk, ⟨_, rfl⟩, q⟩
theorem cr_minT (hc : X.calm = true) (hu : X.A.units + 64 < cLine) : CallR X (.builtin "min") (fun vs H Q => ∃ (a : Addr) (x : Int) (xs : List Int), vs = [V.ref a] ∧ SqT X.K H a ((x :: xs).map V.int) ∧ Q (.int (xs.foldl min x)) H) := by
  intro pins s σ H vs us Q I r h
  obtain ⟨a, x, xs, rfl, hs, q⟩ := h
  obtain ⟨its, rv, hl, _⟩ := I.tuple hs
  rw [Vals.ref1 r]
  refine min_tuple_datum (x := x) (xs := xs) (I.ok.hd hc) hl (HoldAll.of_ints rv.ints) (by show _ + 1 + 0 < cLine; omega) fun i v h' tk hi hh hk => ?_
  obtain ⟨as, rd⟩ := hh
  rw [minOf_eq] at rd
  cases rd with
  | int n t => exact ⟨.int _, H, I.kept hk, ⟨_, rfl⟩, q⟩
theorem e_maxT {m : M (List Int)} (hc : X.calm = true) (hu : X.A.units + 64 < cLine) (hm : X.mg "max" = none) (h : PA X [a] (tCons (tE X J S (eT eI) m) tNil)) (hg : Gl X "max" := by rfl)
    (he : starEach (a :: []) X.env = (false, eval a X.env) :: starEach [] X.env := by rfl) (hpl : (backTo pos (starEach [] X.env)).any (·.1) = false := by rfl) : DE X J S (.Call (.Name "max" p) [a] [] pos) eI (mb m fun xs => maxI xs) :=
  pe_imp (pe_callB (cr_maxT hc hu) hg hm (by decide +kernel) h (by decide) (by decide) he hpl) fun σ H Q ⟨G, own, ok, fin⟩ => E_bind Fin.wish ok fin fun xs v G1 H1 g ok1 d r => by
    obtain ⟨q, vs, rfl, h1, h2⟩ := Den.tuple (X := X) ok1.gh d
    rw [DenL.ints h2] at h1
    cases xs with
    | nil => exact r.elim
    | cons x xs => exact ⟨q, x, xs, rfl, h1, r _ G1 H1 (Grow.refl ok1.gh) (.int _)⟩
theorem e_minT {m : M (List Int)} (hc : X.calm = true) (hu : X.A.units + 64 < cLine) (hm : X.mg "min" = none) (h : PA X [a] (tCons (tE X J S (eT eI) m) tNil)) (hg : Gl X "min" := by rfl)
    (he : starEach (a :: []) X.env = (false, eval a X.env) :: starEach [] X.env := by rfl) (hpl : (backTo pos (starEach [] X.env)).any (·.1) = false := by rfl) : DE X J S (.Call (.Name "min" p) [a] [] pos) eI (mb m fun xs => minI xs) :=
  pe_imp (pe_callB (cr_minT hc hu) hg hm (by decide +kernel) h (by decide) (by decide) he hpl) fun σ H Q ⟨G, own, ok, fin⟩ => E_bind Fin.wish ok fin fun xs v G1 H1 g ok1 d r => by
    obtain ⟨q, vs, rfl, h1, h2⟩ := Den.tuple (X := X) ok1.gh d
    rw [DenL.ints h2] at h1
    cases xs with
    | nil => exact r.elim
    | cons x xs => exact ⟨q, x, xs, rfl, h1, r _ G1 H1 (Grow.refl ok1.gh) (.int _)⟩
end
end DL

namespace DL
open PySem L2
/-! ## plain laws of the codes -/
/-! ### numbers -/
theorem mulL {i j : Int} (h : i.natAbs < 2 ^ 64) : mulM i j = .ok (i * j) := if_pos (.inl h)
theorem mulR {i j : Int} (h : j.natAbs < 2 ^ 64) : mulM i j = .ok (i * j) := if_pos (.inr h)
theorem modK {i j : Int} (h : 0 < j) : modM i j = .ok (i % j) := if_pos h
theorem divK {i j : Int} (h : 0 < j) (h2 : j < 2 ^ 1000) : divM i j = .ok (i / j) := if_pos ⟨h, h2⟩
theorem powK {i j : Int} (h : 0 ≤ j) (h2 : j ≤ 1000) (h3 : i.natAbs < 2 ^ 64) : powM i j = .ok (i ^ j.toNat) := if_pos ⟨h, h2, h3⟩
theorem pow9 : powM 10 9 = .ok 1000000000 := by rw [powK (by decide) (by decide) (by decide)]; rfl
theorem pow12 : powM 10 12 = .ok 1000000000000 := by rw [powK (by decide) (by decide) (by decide)]; rfl
theorem pow18 : powM 10 18 = .ok 1000000000000000000 := by rw [powK (by decide) (by decide) (by decide)]; rfl
theorem okI_of {i : Int} (h : -4000000000000000000 ≤ i) (h2 : i ≤ 4000000000000000000) : okI i = true := by
  unfold okI
  exact decide_eq_true ⟨by omega, by omega⟩
theorem rngK {lo hi : Int} (h1 : -4000000000000000000 ≤ lo) (h2 : lo ≤ 4000000000000000000) (h3 : -4000000000000000000 ≤ hi) (h4 : hi ≤ 4000000000000000000) : rngM lo hi = .ok (rng lo hi) := by
  unfold rngM
  rw [okI_of h1 h2, okI_of h3 h4]; rfl
theorem rngLK {lo hi : Int} (h1 : -1000000 ≤ lo) (h2 : lo ≤ 1000000) (h3 : -1000000 ≤ hi) (h4 : hi ≤ 1000000) : rngL lo hi = .ok (rng lo hi) := by
  unfold rngL
  rw [okI_of (by omega) (by omega), okI_of (by omega) (by omega)]
  have : decide ((hi - lo).toNat ≤ line) = true := decide_eq_true (by unfold line; omega)
  rw [this]; rfl
/-! ### items -/
theorem ixE {α : Type} {xs : List α} {i : Int} {x : α} (h : 0 ≤ i) (h2 : xs[i.toNat]? = some x) : ixM xs i = .ok x := by
  obtain ⟨n, rfl⟩ := Int.eq_ofNat_of_zero_le h
  have q : atI xs (n : Int) = some x := atI_nat (by simpa using h2)
  unfold ixM
  rw [q]
theorem ixK {α : Type} {xs : List α} {i : Int} (h : 0 ≤ i) (h2 : i < xs.length) : ∃ x, xs[i.toNat]? = some x ∧ ixM xs i = .ok x := by
  have hl : i.toNat < xs.length := by omega
  exact ⟨xs[i.toNat], List.getElem?_eq_getElem hl, ixE h (List.getElem?_eq_getElem hl)⟩
theorem rng_getE {lo hi : Int} {i : Nat} {x : Int} (h : (rng lo hi)[i]? = some x) : x = lo + i ∧ i < (hi - lo).toNat := by
  have hl : i < (rng lo hi).length := (List.getElem?_eq_some_iff.mp h).1
  rw [rng_len] at hl
  rw [rng_get hl] at h
  cases h
  exact ⟨rfl, hl⟩
theorem mem_rng {lo hi x : Int} : x ∈ rng lo hi ↔ lo ≤ x ∧ x < hi := by
  unfold rng
  rw [List.mem_map]
  constructor
  · rintro ⟨i, h, rfl⟩
    rw [List.mem_range] at h
    omega
  · rintro ⟨h1, h2⟩
    exact ⟨(x - lo).toNat, List.mem_range.mpr (by omega), by omega⟩
theorem rng_nil {lo hi : Int} (h : hi ≤ lo) : rng lo hi = [] := by
  unfold rng
  rw [show (hi - lo).toNat = 0 by omega]; rfl
theorem rng_app {lo mid hi : Int} (h1 : lo ≤ mid) (h2 : mid ≤ hi) : rng lo hi = rng lo mid ++ rng mid hi := by
  apply List.ext_getElem?
  intro i
  by_cases h : i < (mid - lo).toNat
  · rw [List.getElem?_append_left (by rw [rng_len]; exact h), rng_get h, rng_get (by omega)]
  · rw [List.getElem?_append_right (by rw [rng_len]; omega), rng_len]
    by_cases h3 : i < (hi - lo).toNat
    · rw [rng_get h3, rng_get (by omega)]
      congr 1
      omega
    · rw [List.getElem?_eq_none (by rw [rng_len]; omega), List.getElem?_eq_none (by rw [rng_len]; omega)]
theorem rng_map {lo hi d : Int} : (rng lo hi).map (fun x => x + d) = rng (lo + d) (hi + d) := by
  unfold rng
  rw [List.map_map, show (hi + d - (lo + d)).toNat = (hi - lo).toNat by omega]
  apply List.map_congr_left
  intro i _
  show lo + (i : Int) + d = lo + d + i
  omega
/-! ### loops -/
section
variable {α γ δ ρ : Type}
/-- a loop by an invariant: what is wanted of its outcome -/
theorem forM_wp {f : α → γ → M (Out γ γ ρ)} (Q : M (Out γ δ ρ) → Prop) : ∀ (xs : List α) (s0 : γ) (I : Nat → γ → Prop), I 0 s0 →
    (∀ (i : Nat) (x : α) (s : γ), xs[i]? = some x → I i s → match f x s with
      | .ok (.nx s') => I (i + 1) s'
      | .ok (.ct s') => I (i + 1) s'
      | .ok (.bk s') => Q (.ok (.nx s'))
      | .ok (.rt r) => Q (.ok (.rt r))
      | .er e => Q (.er e)
      | .no => Q .no) → (∀ s, I xs.length s → Q (.ok (.nx s))) → Q (forM f xs s0)
  | [], s0, I, h0, _, hf => hf s0 h0
  | x :: xs, s0, I, h0, hs, hf => by
    have h := hs 0 x s0 rfl h0
    have again : ∀ s', I 1 s' → Q (forM f xs s') := fun s' h1 =>
      forM_wp Q xs s' (fun i s => I (i + 1) s) h1 (fun i y s hy hi => hs (i + 1) y s (by simpa using hy) hi) fun s hi => hf s hi
    unfold forM
    cases hfx : f x s0 with
    | ok o =>
      rw [hfx] at h
      cases o with
      | nx s' => exact again s' h
      | ct s' => exact again s' h
      | bk s' => exact h
      | rt r => exact h
    | er e => rw [hfx] at h; exact h
    | no => rw [hfx] at h; exact h
/-- it runs to its end -/
theorem forM_run {f : α → γ → M (Out γ γ ρ)} (xs : List α) (s0 : γ) (I : Nat → γ → Prop) (h0 : I 0 s0) (hs : ∀ (i : Nat) (x : α) (s : γ), xs[i]? = some x → I i s → ∃ s', f x s = .ok (.nx s') ∧ I (i + 1) s') :
    ∃ s, (forM f xs s0 : M (Out γ δ ρ)) = .ok (.nx s) ∧ I xs.length s :=
  forM_wp (fun m => ∃ s, m = .ok (.nx s) ∧ I xs.length s) xs s0 I h0 (fun i x s hx hi => by
    obtain ⟨s', h1, h2⟩ := hs i x s hx hi
    rw [h1]
    exact h2) fun s h => ⟨s, rfl, h⟩
/-- nothing happens in it -/
theorem forM_pass {f : α → γ → M (Out γ γ ρ)} : ∀ {xs : List α} {s0 : γ}, (∀ x ∈ xs, f x s0 = .ok (.nx s0)) → (forM f xs s0 : M (Out γ δ ρ)) = .ok (.nx s0)
  | [], _, _ => rfl
  | x :: xs, s0, h => by
    unfold forM
    rw [h x List.mem_cons_self]
    exact forM_pass fun y hy => h y (List.mem_cons_of_mem _ hy)
/-- it leaves at the first x that c tells -/
theorem forM_brk {f : α → γ → M (Out γ γ ρ)} (c : α → Bool) (g : α → γ → γ) : ∀ {xs : List α} {s0 : γ}, (∀ x ∈ xs, ∀ s, f x s = if c x then .ok (.bk s) else .ok (.nx (g x s))) →
    (forM f xs s0 : M (Out γ δ ρ)) = .ok (.nx ((xs.takeWhile fun x => !c x).foldl (fun s x => g x s) s0))
  | [], _, _ => rfl
  | x :: xs, s0, h => by
    unfold forM
    rw [h x List.mem_cons_self]
    cases hc : c x with
    | true => simp [hc]
    | false =>
      simp only [Bool.false_eq_true, if_false]
      rw [forM_brk c g fun y hy => h y (List.mem_cons_of_mem _ hy)]
      simp [hc]
/-- .. or returns there -/
theorem forM_ret {f : α → γ → M (Out γ γ ρ)} (c : α → Bool) (r : α → ρ) : ∀ {xs : List α} {s0 : γ}, (∀ x ∈ xs, f x s0 = if c x then .ok (.rt (r x)) else .ok (.nx s0)) →
    (forM f xs s0 : M (Out γ δ ρ)) = match xs.find? c with
      | some x => .ok (.rt (r x))
      | none => .ok (.nx s0)
  | [], _, _ => rfl
  | x :: xs, s0, h => by
    unfold forM
    rw [h x List.mem_cons_self]
    cases hc : c x with
    | true => simp [hc]
    | false =>
      simp only [Bool.false_eq_true, if_false, List.find?, hc]
      exact forM_ret c r fun y hy => h y (List.mem_cons_of_mem _ hy)
theorem foldl_app {xs acc : List α} : xs.foldl (fun s x => s ++ [x]) acc = acc ++ xs := by
  induction xs generalizing acc with
  | nil => simp
  | cons x xs ih => rw [List.foldl_cons, ih]; simp
theorem forM_congr {f g : α → γ → M (Out γ γ ρ)} : ∀ {xs : List α} {s0 : γ}, (∀ x ∈ xs, ∀ s, f x s = g x s) → (forM f xs s0 : M (Out γ δ ρ)) = forM g xs s0
  | [], _, _ => rfl
  | x :: xs, s0, h => by
    unfold forM
    rw [h x List.mem_cons_self]
    have ih : ∀ s, (forM f xs s : M (Out γ δ ρ)) = forM g xs s := fun s => forM_congr fun y hy => h y (List.mem_cons_of_mem _ hy)
    cases g x s0 with
    | ok o => cases o <;> simp [ih]
    | er e => rfl
    | no => rfl
end
theorem tw_map {α β : Type} (f : α → β) (q : β → Bool) : ∀ xs : List α, (xs.map f).takeWhile q = (xs.takeWhile fun x => q (f x)).map f
  | [] => rfl
  | x :: xs => by
    rw [List.map_cons]
    cases h : q (f x) with
    | true => simp [h, tw_map f q xs]
    | false => simp [h]
theorem tw_len {α : Type} (q : α → Bool) (xs : List α) : (xs.takeWhile q).length ≤ xs.length := (List.takeWhile_prefix q).length_le
theorem lineK {n : Nat} (h : n ≤ 1000000) : n ≤ line := Nat.le_trans h (by decide)
theorem appK {α : Type} {xs : List α} {x : α} (h : xs.length ≤ 1000000) : app xs x = .ok (xs ++ [x]) := app_ok (Nat.lt_of_le_of_lt h (by decide))
theorem catK {α : Type} {xs ys : List α} (h : xs.length + ys.length ≤ 1000000) : catM xs ys = .ok (xs ++ ys) := if_pos (lineK h)
theorem repK {α : Type} {xs : List α} {k : Int} (h : xs.length * k.toNat ≤ 1000000) (h2 : k < 1000000) (h3 : 0 ≤ k) : repM xs k = .ok (List.replicate k.toNat xs).flatten := if_pos ⟨lineK h, by omega, by omega⟩
theorem rep1 {α : Type} {x : α} {k : Int} (h2 : k < 1000000) (h3 : 0 ≤ k) : repM [x] k = .ok (List.replicate k.toNat x) := by
  rw [repK (by rw [List.length_singleton]; omega) h2 h3]
  congr 1
  generalize k.toNat = n
  induction n with
  | zero => rfl
  | succ n ih => rw [List.replicate_succ, List.flatten_cons, ih, List.replicate_succ]; rfl
theorem cut1 {α : Type} (xs : List α) : cut xs (some 1) none = xs.drop 1 := by
  unfold cut
  rw [show HT.sIx xs.length 0 (some 1) = min 1 xs.length from HT.sIx_nat xs.length 0 1, HT.sIx_none]
  cases xs with
  | nil => rfl
  | cons x r =>
    rw [show min 1 (x :: r).length = 1 by rw [List.length_cons]; omega]
    show (List.take ((x :: r).length - 1) r) = r
    rw [List.length_cons, Nat.add_sub_cancel]
    exact List.take_length
end DL

namespace DL
open PySem L2
/-! ## the laws' own helpers, the standing -/
def kc__law_cell (script : (List Int)) (k : Int) : M (Out Unit Empty Int) := if (decide (k < (script.length : Int))) = true then mb (ixM script k) fun v1 => .ok (.rt v1)
    else .ok (.rt 0)
def k__law_cell (script : (List Int)) (k : Int) : M Int := fnV .no (kc__law_cell script k)
def kc__law_draws (cell : Int) (sizes : (List Int)) : M (Out Unit Empty (List Int)) := mb (rngM 0 (sizes.length : Int)) fun v1 => sq (forM (fun (k2 : Int) (s3 : Int × List Int) =>
    mb (mb (powM 10 18) fun v4 => (.ok (decide (v4 ≤ cell)))) fun v5 => if v5 = true then mb (mb (ixM sizes k2) fun v6 => modM s3.1 v6) fun v7 => mb (app s3.2 v7) fun draws8 =>
    mb (mb (ixM sizes k2) fun v9 => divM s3.1 v9) fun left10 =>
    .ok (.nx (left10, draws8))
    else mb (mb (mb (mb (mulM 7919 k2) fun v11 => (.ok (cell + v11))) fun v12 => (.ok (v12 + 13))) fun v13 => modM v13 2147483647) fun mixed14 =>
    mb (mb (mulM mixed14 (mixed14 + 48271)) fun v15 => modM v15 2147483629) fun mixed16 =>
    mb (mb (mb (mulM mixed16 (mixed16 + 69621)) fun v17 => mb (mulM 31 k2) fun v18 => (.ok (v17 + v18))) fun v19 => modM v19 2147483647) fun mixed20 =>
    mb (mb (divM mixed20 9) fun v21 => mb (ixM sizes k2) fun v22 => modM v21 v22) fun v23 => mb (app s3.2 v23) fun draws24 =>
    .ok (.nx (s3.1, draws24))) v1 (cell, ([] : List Int))) fun s25 =>
    .ok (.rt s25.2)
def k__law_draws (cell : Int) (sizes : (List Int)) : M (List Int) := fnV .no (kc__law_draws cell sizes)
def kc__law_lengths (cell : Int) (many : Int) : M (Out Unit Empty (List Int)) := mb (mb (k__law_draws cell [4]) fun v1 => ixM v1 0) fun flavour2 =>
    mb (mb (mb (powM 10 9) fun v3 => (.ok [1, 1, 4, v3])) fun v4 => ixM v4 flavour2) fun size5 =>
    mb (mb (mb (mb (mb (repM [size5] many) fun v6 => catM [4] v6) fun v7 => k__law_draws cell v7) fun v8 => (.ok (cut v8 (some 1) none))) fun v9 => mapC (fun draw10 => (.ok (1 + draw10))) v9) fun v11 => .ok (.rt v11)
def k__law_lengths (cell : Int) (many : Int) : M (List Int) := fnV .no (kc__law_lengths cell many)
def kc__law_strengths (cell : Int) (sizes : (List Int)) : M (Out Unit Empty (List Int)) := mb (mb (k__law_draws cell [6]) fun v1 => ixM v1 0) fun flavour2 =>
    if (decide (flavour2 = 3)) = true then mb (mb (mb (mb (mapC (fun size3 => (.ok (size3 + 1))) sizes) fun v4 => catM [6] v4) fun v5 => k__law_draws cell v5) fun v6 => (.ok (cut v6 (some 1) none))) fun v7 => .ok (.rt v7)
    else if (decide (flavour2 = 4)) = true then mb (mb (k__law_draws cell [6, sizes.sum + 3]) fun v8 => ixM v8 1) fun level9 =>
    mb (mapC (fun size10 => (.ok level9)) sizes) fun v11 => .ok (.rt v11)
    else mb (mb (mb (mb (powM 10 12) fun v12 => (.ok (v12 + 1))) fun v13 => (.ok [3, (sizes.length : Int) + 2, sizes.sum + 3, 0, 0, v13])) fun v14 => ixM v14 flavour2) fun most15 =>
    mb (mb (mb (mb (repM [most15] (sizes.length : Int)) fun v16 => catM [6] v16) fun v17 => k__law_draws cell v17) fun v18 => (.ok (cut v18 (some 1) none))) fun v19 => .ok (.rt v19)
def k__law_strengths (cell : Int) (sizes : (List Int)) : M (List Int) := fnV .no (kc__law_strengths cell sizes)
def kc_Beads___init__ (strengths : (List Int)) (lengths : (List Int)) (ring : Bool) : M (Out BV Empty Unit) := (fun (j1 : (List Int)) =>
    if ((decide (strengths = ([] : List Int))) || (!decide ((j1.length : Int) = (strengths.length : Int)))) = true then .er ⟨"BadBeads", [("place", eI (-1))]⟩
    else mb (rngM 0 (strengths.length : Int)) fun v2 => sq (forM (fun (place3 : Int) (s4 : Unit) =>
    mb (mb (mb (ixM strengths place3) fun v5 => (.ok (decide (v5 < 0)))) fun v6 => if v6 = true then .ok true else mb (ixM j1 place3) fun v7 => (.ok (decide (v7 < 1)))) fun v8 => if v8 = true then .er ⟨"BadBeads", [("place", eI place3)]⟩
    else .ok (.nx ())) v2 ()) fun s9 =>
    .ok (.nx ⟨strengths, j1, ring⟩)) lengths
def k_Beads___init__ (strengths : (List Int)) (lengths : (List Int)) (ring : Bool) : M BV := fnI (kc_Beads___init__ strengths lengths ring)
def kc_Beads___len__ (self : BV) : M (Out Unit Empty Int) := .ok (.rt (self.strengths.length : Int))
def k_Beads___len__ (self : BV) : M Int := fnV .no (kc_Beads___len__ self)
def kc_check_place (place : Int) (size : Int) : M (Out Unit Empty Unit) := if ((decide (place < 0)) || (decide (size ≤ place))) = true then .er ⟨"BadPlace", [("place", eI place)]⟩
    else .ok (.nx ())
def k_check_place (place : Int) (size : Int) : M Unit := fnV (.ok ()) (kc_check_place place size)
def kc_run_of (beads : BV) (place : Int) : M (Out Unit Empty (List Int)) := mb (mb (mb (k_Beads___len__ beads) lenO) fun v1 => rngL (place + 1) v1) fun after2 =>
    sq (if beads.ring = true then mb (mb (rngL 0 place) fun v3 => catM after2 v3) fun after4 =>
    .ok (.nx after4) else .ok (.nx after2)) fun (j5 : List Int) =>
    .ok (.rt j5)
def k_run_of (beads : BV) (place : Int) : M (List Int) := fnV .no (kc_run_of beads place)
def kc_train_of (beads : BV) (place : Int) : M (Out Unit Empty (List Int)) := mb (mb (mb (k_Beads___len__ beads) lenO) fun v1 => k_check_place place v1) fun v2 => mb (k_run_of beads place) fun v3 => sq (forM (fun (at4 : Int) (s5 : List Int) =>
    mb (mb (ixM beads.strengths at4) fun v6 => mb (ixM beads.strengths place) fun v7 => (.ok (decide (v7 ≤ v6)))) fun v8 => if v8 = true then .ok (.bk s5)
    else mb (app s5 at4) fun train9 =>
    .ok (.nx train9)) v3 ([] : List Int)) fun s10 =>
    .ok (.rt s10)
def k_train_of (beads : BV) (place : Int) : M (List Int) := fnV .no (kc_train_of beads place)
def kc_reach_of (beads : BV) (place : Int) : M (Out Unit Empty Int) := mb (k_train_of beads place) fun train1 =>
    mb (mb (ixM beads.lengths place) fun v2 => mb (mb (mapC (fun at3 => ixM beads.lengths at3) train1) fun v4 => (.ok v4.sum)) fun v5 => (.ok (v2 + v5))) fun v6 => .ok (.rt v6)
def k_reach_of (beads : BV) (place : Int) : M Int := fnV .no (kc_reach_of beads place)
def kc_reaches (beads : BV) : M (Out Unit Empty (List Int)) := mb (mb (mb (mb (k_Beads___len__ beads) lenO) fun v1 => rngM 0 v1) fun v2 => mapC (fun place3 => k_reach_of beads place3) v2) fun v4 => .ok (.rt v4)
def k_reaches (beads : BV) : M (List Int) := fnV .no (kc_reaches beads)
def kc_stopper_of (beads : BV) (place : Int) : M (Out Unit Empty (Option Int)) := mb (mb (mb (k_Beads___len__ beads) lenO) fun v1 => k_check_place place v1) fun v2 => mb (k_run_of beads place) fun v3 => sq (forM (fun (at4 : Int) (s5 : Unit) =>
    mb (mb (ixM beads.strengths at4) fun v6 => mb (ixM beads.strengths place) fun v7 => (.ok (decide (v7 ≤ v6)))) fun v8 => if v8 = true then .ok (.rt (some at4))
    else .ok (.nx ())) v3 ()) fun s9 =>
    .ok (.rt (none : Option Int))
def k_stopper_of (beads : BV) (place : Int) : M (Option Int) := fnV (.ok none) (kc_stopper_of beads place)
def kc__law_is_integer (actual : Int) : M (Out Unit Empty Bool) := .ok (.rt (true && (!false)))
def k__law_is_integer (actual : Int) : M Bool := fnV .no (kc__law_is_integer actual)
def kc__law_is_integer_v1 (actual : (Option Int)) : M (Out Unit Empty Bool) := .ok (.rt ((if actual.isSome = true then true else false) && (!(if actual.isSome = true then false else false))))
def k__law_is_integer_v1 (actual : (Option Int)) : M Bool := fnV .no (kc__law_is_integer_v1 actual)
def kc__law_numbers (actual : (List Int)) (due : (List Int)) (as_tuple : Bool) : M (Out Unit Empty Bool) := if ((as_tuple && (!false)) || ((!as_tuple) && (!true))) = true then .ok (.rt false)
    else if (!decide ((actual.length : Int) = (due.length : Int))) = true then .ok (.rt false)
    else mb (rngM 0 (due.length : Int)) fun v1 => sq (forM (fun (k2 : Int) (s3 : Unit) =>
    mb (mb (mb (mb (ixM actual k2) fun v4 => k__law_is_integer v4) fun v5 => (.ok (!v5))) fun v6 => if v6 = true then .ok true else mb (ixM actual k2) fun v7 => mb (ixM due k2) fun v8 => (.ok (!decide (v7 = v8)))) fun v9 => if v9 = true then .ok (.rt false)
    else .ok (.nx ())) v1 ()) fun s10 =>
    .ok (.rt true)
def k__law_numbers (actual : (List Int)) (due : (List Int)) (as_tuple : Bool) : M Bool := fnV .no (kc__law_numbers actual due as_tuple)
def kc__law_numbers_v1 (actual : (List Int)) (due : (List Int)) (as_tuple : Bool) : M (Out Unit Empty Bool) := if ((as_tuple && (!true)) || ((!as_tuple) && (!false))) = true then .ok (.rt false)
    else if (!decide ((actual.length : Int) = (due.length : Int))) = true then .ok (.rt false)
    else mb (rngM 0 (due.length : Int)) fun v1 => sq (forM (fun (k2 : Int) (s3 : Unit) =>
    mb (mb (mb (mb (ixM actual k2) fun v4 => k__law_is_integer v4) fun v5 => (.ok (!v5))) fun v6 => if v6 = true then .ok true else mb (ixM actual k2) fun v7 => mb (ixM due k2) fun v8 => (.ok (!decide (v7 = v8)))) fun v9 => if v9 = true then .ok (.rt false)
    else .ok (.nx ())) v1 ()) fun s10 =>
    .ok (.rt true)
def k__law_numbers_v1 (actual : (List Int)) (due : (List Int)) (as_tuple : Bool) : M Bool := fnV .no (kc__law_numbers_v1 actual due as_tuple)
def kc__law_is_standing (actual : BV) (round_flag : Bool) (sizes : (List Int)) (strengths : (List Int)) : M (Out Unit Empty Bool) := if ((!true) || ((!true) || (!decide (actual.ring = round_flag)))) = true then .ok (.rt false)
    else mb (mb (k__law_numbers_v1 actual.lengths sizes true) fun v1 => if v1 = true then k__law_numbers_v1 actual.strengths strengths true else .ok false) fun v2 => .ok (.rt v2)
def k__law_is_standing (actual : BV) (round_flag : Bool) (sizes : (List Int)) (strengths : (List Int)) : M Bool := fnV .no (kc__law_is_standing actual round_flag sizes strengths)
theorem k_ok {β γ ρ : Type} {d : M ρ} {x : ρ} : fnV d (.ok (.rt x) : M (Out β γ ρ)) = .ok x := rfl
theorem cellK (ns : List Int) {k : Int} (h : 0 ≤ k) : ∃ c, k__law_cell ns k = .ok c := by
  unfold k__law_cell kc__law_cell
  by_cases q : k < (ns.length : Int)
  · obtain ⟨x, _, h2⟩ := ixK h q
    rw [if_pos (decide_eq_true q), h2]
    exact ⟨x, rfl⟩
  · rw [if_neg (by simp [q])]
    exact ⟨0, rfl⟩
/-- what a draw may be -/
def Drawn (sizes ds : List Int) : Prop := ds.length = sizes.length ∧ ∀ (i : Nat) (s d : Int), sizes[i]? = some s → ds[i]? = some d → 0 ≤ d ∧ d < s
theorem drawsK (cell : Int) {sizes : List Int} (hl : sizes.length ≤ 100000) (hs : ∀ s ∈ sizes, 0 < s ∧ s < 2 ^ 100) : ∃ ds, k__law_draws cell sizes = .ok ds ∧ Drawn sizes ds := by
  unfold k__law_draws kc__law_draws
  rw [rngK (by decide) (by decide) (by omega) (by omega), mbk]
  obtain ⟨s, h1, h2, h3⟩ := forM_run (ρ := List Int) (δ := Empty) (f := fun (k2 : Int) (s3 : Int × List Int) =>
    mb (mb (powM 10 18) fun v4 => (.ok (decide (v4 ≤ cell)))) fun v5 => if v5 = true then mb (mb (ixM sizes k2) fun v6 => modM s3.1 v6) fun v7 => mb (app s3.2 v7) fun draws8 =>
    mb (mb (ixM sizes k2) fun v9 => divM s3.1 v9) fun left10 =>
    .ok (.nx (left10, draws8))
    else mb (mb (mb (mb (mulM 7919 k2) fun v11 => (.ok (cell + v11))) fun v12 => (.ok (v12 + 13))) fun v13 => modM v13 2147483647) fun mixed14 =>
    mb (mb (mulM mixed14 (mixed14 + 48271)) fun v15 => modM v15 2147483629) fun mixed16 =>
    mb (mb (mb (mulM mixed16 (mixed16 + 69621)) fun v17 => mb (mulM 31 k2) fun v18 => (.ok (v17 + v18))) fun v19 => modM v19 2147483647) fun mixed20 =>
    mb (mb (divM mixed20 9) fun v21 => mb (ixM sizes k2) fun v22 => modM v21 v22) fun v23 => mb (app s3.2 v23) fun draws24 =>
    .ok (.nx (s3.1, draws24))) (rng 0 (sizes.length : Int)) (cell, []) (fun i s => s.2.length = i ∧ ∀ (j : Nat) (z d : Int), sizes[j]? = some z → s.2[j]? = some d → 0 ≤ d ∧ d < z) ⟨rfl, fun j z d _ h => by simp at h⟩ (fun i x s hx hi => by
      obtain ⟨rfl, hlt⟩ := rng_getE hx
      have hlt' : i < sizes.length := by omega
      obtain ⟨hlen, hall⟩ := hi
      have hz : sizes[(0 + (i : Int)).toNat]? = some sizes[i] := by
        rw [show (0 + (i : Int)).toNat = i by omega]; exact List.getElem?_eq_getElem hlt'
      have hix : ixM sizes (0 + (i : Int)) = .ok sizes[i] := ixE (by omega) hz
      have hpos := hs _ (List.getElem_mem hlt')
      have add : ∀ d : Int, 0 ≤ d ∧ d < sizes[i] → (s.2 ++ [d]).length = i + 1 ∧ ∀ (j : Nat) (z d' : Int), sizes[j]? = some z → (s.2 ++ [d])[j]? = some d' → 0 ≤ d' ∧ d' < z := fun d hd => by
        refine ⟨by rw [List.length_append, hlen]; rfl, fun j z d' hj hd' => ?_⟩
        by_cases hji : j < s.2.length
        · rw [List.getElem?_append_left hji] at hd'
          exact hall j z d' hj hd'
        · rw [List.getElem?_append_right (by omega)] at hd'
          have : j - s.2.length = 0 := by
            cases q : j - s.2.length with
            | zero => rfl
            | succ n => rw [q] at hd'; simp at hd'
          have hj' : j = i := by omega
          subst hj'
          rw [this] at hd'
          rw [List.getElem?_eq_getElem hlt'] at hj
          cases hj
          simp at hd'
          subst hd'
          exact hd
      have mm : ∀ a : Int, 0 ≤ a % sizes[i] ∧ a % sizes[i] < sizes[i] := fun a => ⟨Int.emod_nonneg _ (by omega), Int.emod_lt_of_pos _ hpos.1⟩
      have p100 : (2 : Int) ^ 100 < 2 ^ 1000 := by decide
      simp only [pow18, mbk, hix]
      by_cases hc : (1000000000000000000 : Int) ≤ cell
      · rw [if_pos (decide_eq_true hc), modK hpos.1]
        simp only [mbk]
        rw [appK (by omega)]
        simp only [mbk]
        rw [divK hpos.1 (by omega)]
        exact ⟨_, rfl, add _ (mm _)⟩
      · rw [if_neg (by simp [hc])]
        rw [mulL (by decide)]
        simp only [mbk]
        rw [modK (by decide)]
        simp only [mbk]
        have b1 : ∀ a : Int, 0 ≤ a % 2147483647 ∧ a % 2147483647 < 2147483647 := fun a => ⟨Int.emod_nonneg _ (by decide), Int.emod_lt_of_pos _ (by decide)⟩
        have b2 : ∀ a : Int, 0 ≤ a % 2147483629 ∧ a % 2147483629 < 2147483629 := fun a => ⟨Int.emod_nonneg _ (by decide), Int.emod_lt_of_pos _ (by decide)⟩
        generalize e1 : (cell + 7919 * (0 + (i : Int)) + 13) % 2147483647 = m1
        have h1 := b1 (cell + 7919 * (0 + (i : Int)) + 13)
        rw [e1] at h1
        rw [mulL (by omega)]
        simp only [mbk]
        rw [modK (by decide)]
        simp only [mbk]
        generalize e2 : (m1 * (m1 + 48271)) % 2147483629 = m2
        have h2 := b2 (m1 * (m1 + 48271))
        rw [e2] at h2
        rw [mulL (by omega)]
        simp only [mbk]
        rw [mulL (by decide)]
        simp only [mbk]
        rw [modK (by decide)]
        simp only [mbk]
        rw [divK (by decide) (by decide)]
        simp only [mbk]
        rw [modK hpos.1]
        simp only [mbk]
        rw [appK (by omega)]
        exact ⟨_, rfl, add _ (mm _)⟩)
  refine ⟨s.2, ?_, ?_⟩
  · show fnV .no (sq (forM _ _ _) _) = _
    have h1' : (forM _ _ _ : M (Out (Int × List Int) Empty (List Int))) = _ := h1
    rw [h1', sqk]
    rfl
  · rw [rng_len] at h2
    exact ⟨by omega, h3⟩
theorem Drawn.at {sizes ds : List Int} (h : Drawn sizes ds) (i : Nat) {s : Int} (hs : sizes[i]? = some s) : ∃ d, ixM ds (i : Int) = .ok d ∧ ds[i]? = some d ∧ 0 ≤ d ∧ d < s := by
  have hl : i < ds.length := by rw [h.1]; exact (List.getElem?_eq_some_iff.mp hs).1
  have e := List.getElem?_eq_getElem hl
  obtain ⟨h1, h2⟩ := h.2 i s _ hs e
  exact ⟨ds[i], ixE (by omega) (by simpa using e), e, h1, h2⟩
theorem Drawn.drop {s : Int} {sizes ds : List Int} (h : Drawn (s :: sizes) ds) : Drawn sizes (ds.drop 1) := by
  refine ⟨by rw [List.length_drop, h.1]; rfl, fun i z d hz hd => ?_⟩
  rw [List.getElem?_drop] at hd
  exact h.2 (1 + i) z d (by rw [Nat.add_comm]; simpa using hz) hd
theorem Drawn.mem {sizes ds : List Int} (h : Drawn sizes ds) {d : Int} (hd : d ∈ ds) : ∃ s ∈ sizes, 0 ≤ d ∧ d < s := by
  obtain ⟨i, hi, rfl⟩ := List.mem_iff_getElem.mp hd
  have hl : i < sizes.length := by rw [← h.1]; exact hi
  exact ⟨sizes[i], List.getElem_mem hl, h.2 i _ _ (List.getElem?_eq_getElem hl) (List.getElem?_eq_getElem hi)⟩
theorem mapCk {α β : Type} {g : α → β} {xs : List α} (hl : xs.length ≤ 1000000) : mapC (fun x => .ok (g x)) xs = .ok (xs.map g) := mapC_ok (lineK hl) fun _ _ => rfl
theorem le_sum {xs : List Int} (h : ∀ x ∈ xs, 1 ≤ x ∧ x ≤ 1000000000) : 0 ≤ xs.sum ∧ xs.sum ≤ 1000000000 * (xs.length : Int) := by
  induction xs with
  | nil => simp
  | cons x xs ih =>
    obtain ⟨h1, h2⟩ := ih fun y hy => h y (List.mem_cons_of_mem _ hy)
    have h3 := h x List.mem_cons_self
    rw [List.sum_cons, List.length_cons]
    omega
theorem lengthsK (cell : Int) {many : Int} (h : 0 ≤ many) (h2 : many ≤ 90000) : ∃ zs, k__law_lengths cell many = .ok zs ∧ zs.length = many.toNat ∧ ∀ z ∈ zs, 1 ≤ z ∧ z ≤ 1000000000 := by
  unfold k__law_lengths kc__law_lengths
  obtain ⟨ds, e1, d1⟩ := drawsK cell (sizes := [4]) (by decide) (fun s hs => by rw [List.mem_singleton.mp hs]; decide)
  obtain ⟨f, e2, _, f1, f2⟩ := d1.at 0 rfl
  rw [e1, mbk, show ((0 : Nat) : Int) = 0 from rfl] at *
  rw [e2]
  simp only [pow9, mbk]
  have hsz : ∃ sz, ixM [1, 1, 4, (1000000000 : Int)] f = .ok sz ∧ 1 ≤ sz ∧ sz ≤ 1000000000 := by
    have : f = 0 ∨ f = 1 ∨ f = 2 ∨ f = 3 := by omega
    rcases this with rfl | rfl | rfl | rfl
    · exact ⟨1, rfl, by decide, by decide⟩
    · exact ⟨1, rfl, by decide, by decide⟩
    · exact ⟨4, rfl, by decide, by decide⟩
    · exact ⟨1000000000, rfl, by decide, by decide⟩
  obtain ⟨sz, e3, s1, s2⟩ := hsz
  rw [e3]
  simp only [mbk]
  rw [rep1 (by omega) h, mbk, catK (by simp; omega), mbk]
  obtain ⟨es, e4, d2⟩ := drawsK cell (sizes := [4] ++ List.replicate many.toNat sz) (by simp; omega) (fun s hs => by
    rcases List.mem_append.mp hs with hs | hs
    · rw [List.mem_singleton.mp hs]; decide
    · rw [(List.mem_replicate.mp hs).2]; omega)
  have d3 : Drawn (List.replicate many.toNat sz) (es.drop 1) := d2.drop
  rw [e4, mbk, mbk, cut1]
  have hl3 : (es.drop 1).length = many.toNat := by rw [d3.1, List.length_replicate]
  rw [mapCk (by omega), mbk]
  refine ⟨_, rfl, by rw [List.length_map, hl3], fun z hz => ?_⟩
  obtain ⟨d, hd, rfl⟩ := List.mem_map.mp hz
  obtain ⟨s, hs, h3, h4⟩ := d3.mem hd
  rw [(List.mem_replicate.mp hs).2] at h4
  omega
theorem strengthsK (cell : Int) {sizes : List Int} (hl : sizes.length ≤ 90000) (hs : ∀ z ∈ sizes, 1 ≤ z ∧ z ≤ 1000000000) :
    ∃ ss, k__law_strengths cell sizes = .ok ss ∧ ss.length = sizes.length ∧ ∀ s ∈ ss, 0 ≤ s ∧ s ≤ 100000000000000 := by
  unfold k__law_strengths kc__law_strengths
  obtain ⟨ds, e1, d1⟩ := drawsK cell (sizes := [6]) (by decide) (fun s hs => by rw [List.mem_singleton.mp hs]; decide)
  obtain ⟨f, e2, _, f1, f2⟩ := d1.at 0 rfl
  rw [e1, mbk, show ((0 : Nat) : Int) = 0 from rfl] at *
  rw [e2]
  obtain ⟨t1, t2⟩ := le_sum hs
  simp only [mbk]
  by_cases h3 : f = 3
  · rw [if_pos (decide_eq_true h3), mapCk (g := fun x : Int => x + 1) (by omega), mbk, catK (by simp; omega), mbk]
    obtain ⟨es, e4, d2⟩ := drawsK cell (sizes := [6] ++ sizes.map fun x => x + 1) (by simp; omega) (fun s hs' => by
      rcases List.mem_append.mp hs' with hs' | hs'
      · rw [List.mem_singleton.mp hs']; decide
      · obtain ⟨y, hy, rfl⟩ := List.mem_map.mp hs'
        have := hs y hy
        omega)
    have d3 : Drawn (sizes.map fun x => x + 1) (es.drop 1) := d2.drop
    rw [e4, mbk, mbk, cut1]
    refine ⟨_, rfl, by rw [d3.1, List.length_map], fun z hz => ?_⟩
    obtain ⟨s, hs', h4, h5⟩ := d3.mem hz
    obtain ⟨y, hy, rfl⟩ := List.mem_map.mp hs'
    have := hs y hy
    omega
  · rw [if_neg (by simp [h3])]
    by_cases h4 : f = 4
    · rw [if_pos (decide_eq_true h4)]
      obtain ⟨es, e4, d2⟩ := drawsK cell (sizes := [6, sizes.sum + 3]) (by show (2 : Nat) ≤ 100000; decide) (fun s hs' => by
        rcases List.mem_cons.mp hs' with rfl | hs'
        · decide
        · rw [List.mem_singleton.mp hs']; omega)
      obtain ⟨lv, e5, _, l1, l2⟩ := d2.at 1 rfl
      rw [e4, mbk, show ((1 : Nat) : Int) = 1 from rfl] at *
      rw [e5, mbk, mapCk (g := fun _ : Int => lv) (by omega), mbk]
      refine ⟨_, rfl, by rw [List.length_map], fun z hz => ?_⟩
      obtain ⟨y, hy, rfl⟩ := List.mem_map.mp hz
      omega
    · rw [if_neg (by simp [h4])]
      simp only [pow12, mbk]
      have hm : ∃ mo, ixM [3, (sizes.length : Int) + 2, sizes.sum + 3, 0, 0, 1000000000000 + 1] f = .ok mo ∧ 1 ≤ mo ∧ mo ≤ 100000000000000 := by
        have : f = 0 ∨ f = 1 ∨ f = 2 ∨ f = 5 := by omega
        rcases this with rfl | rfl | rfl | rfl
        · exact ⟨3, rfl, by decide, by decide⟩
        · exact ⟨(sizes.length : Int) + 2, rfl, by omega, by omega⟩
        · exact ⟨sizes.sum + 3, rfl, by omega, by omega⟩
        · exact ⟨1000000000000 + 1, rfl, by decide, by decide⟩
      obtain ⟨mo, e3, s1, s2⟩ := hm
      rw [e3]
      simp only [mbk]
      rw [rep1 (by omega) (by omega), mbk, catK (by simp; omega), mbk]
      obtain ⟨es, e4, d2⟩ := drawsK cell (sizes := [6] ++ List.replicate (sizes.length : Int).toNat mo) (by simp; omega) (fun s hs => by
        rcases List.mem_append.mp hs with hs | hs
        · rw [List.mem_singleton.mp hs]; decide
        · rw [(List.mem_replicate.mp hs).2]; omega)
      have d3 : Drawn (List.replicate (sizes.length : Int).toNat mo) (es.drop 1) := d2.drop
      rw [e4, mbk, mbk, cut1]
      refine ⟨_, rfl, by rw [d3.1, List.length_replicate]; omega, fun z hz => ?_⟩
      obtain ⟨s, hs, h3, h4⟩ := d3.mem hz
      rw [(List.mem_replicate.mp hs).2] at h4
      omega
/-! ### the law's comparison of numbers -/
theorem isintK (a : Int) : k__law_is_integer a = .ok true := rfl
theorem isintOK (o : Option Int) : k__law_is_integer_v1 o = .ok o.isSome := by cases o <;> rfl
theorem find_none {xs ys : List Int} (h : xs.length = ys.length) : ((rng 0 (ys.length : Int)).find? fun k => !decide (xs[k.toNat]? = ys[k.toNat]?)) = none ↔ xs = ys := by
  rw [List.find?_eq_none]
  constructor
  · intro q
    apply List.ext_getElem?
    intro i
    by_cases hi : i < ys.length
    · have := q (i : Int) (mem_rng.mpr ⟨by omega, by omega⟩)
      simpa using this
    · rw [List.getElem?_eq_none (by omega), List.getElem?_eq_none (by omega)]
  · rintro rfl k _
    simp
theorem numLoop {δ : Type} {xs ys : List Int} (h : xs.length = ys.length) :
    (forM (fun (k317 : Int) (s316 : Unit) => mb (mb (mb (mb (ixM xs k317) fun v318 => k__law_is_integer v318) fun v319 => (.ok (!v319))) fun v322 => if v322 = true then .ok true else mb (ixM xs k317) fun v320 => mb (ixM ys k317) fun v321 => (.ok (!decide (v320 = v321)))) fun v323 => if v323 = true then .ok (.rt false)
    else .ok (.nx ())) (rng 0 (ys.length : Int)) () : M (Out Unit δ Bool)) = if xs = ys then .ok (.nx ()) else .ok (.rt false) := by
  rw [forM_ret (fun k => !decide (xs[k.toNat]? = ys[k.toNat]?)) (fun _ => false)]
  · by_cases e : xs = ys
    · rw [if_pos e, (find_none h).mpr e]
    · rw [if_neg e]
      cases q : ((rng 0 (ys.length : Int)).find? fun k => !decide (xs[k.toNat]? = ys[k.toNat]?)) with
      | none => exact absurd ((find_none h).mp q) e
      | some x => rfl
  · intro k hk
    obtain ⟨h1, h2⟩ := mem_rng.mp hk
    obtain ⟨x, ex, ex'⟩ := ixK (xs := xs) h1 (by omega)
    obtain ⟨y, ey, ey'⟩ := ixK (xs := ys) h1 h2
    rw [ex', ey', ex, ey]
    simp only [mbk, isintK]
    by_cases e : x = y
    · subst e; simp [mbk]
    · simp [mbk, e]
theorem numbersK {xs ys : List Int} (b : Bool) (hl : ys.length ≤ 90000) : k__law_numbers xs ys b = .ok (!b && decide (xs = ys)) := by
  unfold k__law_numbers kc__law_numbers
  cases b with
  | true => rfl
  | false =>
    rw [if_neg (by decide)]
    by_cases h : xs.length = ys.length
    · rw [if_neg (by simp [h]), rngK (by decide) (by decide) (by omega) (by omega), mbk, numLoop h]
      by_cases e : xs = ys
      · rw [if_pos e, sqk]; simp [e]
      · rw [if_neg e]; simp [e]
    · have : xs ≠ ys := fun e => h (by rw [e])
      have h' : ¬ ((xs.length : Int) = (ys.length : Int)) := by omega
      rw [if_pos (by simp [h'])]
      simp [this]
theorem numbersTK {xs ys : List Int} (b : Bool) (hl : ys.length ≤ 90000) : k__law_numbers_v1 xs ys b = .ok (b && decide (xs = ys)) := by
  unfold k__law_numbers_v1 kc__law_numbers_v1
  cases b with
  | false => rfl
  | true =>
    rw [if_neg (by decide)]
    by_cases h : xs.length = ys.length
    · rw [if_neg (by simp [h]), rngK (by decide) (by decide) (by omega) (by omega), mbk, numLoop h]
      by_cases e : xs = ys
      · rw [if_pos e, sqk]; simp [e]
      · rw [if_neg e]; simp [e]
    · have : xs ≠ ys := fun e => h (by rw [e])
      have h' : ¬ ((xs.length : Int) = (ys.length : Int)) := by omega
      rw [if_pos (by simp [h'])]
      simp [this]
theorem standingK {b : BV} {r : Bool} {zs ss : List Int} (h : zs.length ≤ 90000) (h2 : ss.length ≤ 90000) : k__law_is_standing b r zs ss = .ok (decide (b = ⟨ss, zs, r⟩)) := by
  unfold k__law_is_standing kc__law_is_standing
  rw [numbersTK true h, numbersTK true h2]
  obtain ⟨s, l, q⟩ := b
  simp only [mbk, BV.mk.injEq]
  by_cases h1 : q = r
  · subst h1
    by_cases h2 : l = zs
    · by_cases h3 : s = ss <;> simp [h2, h3]
    · simp [h2]
  · simp [h1]
/-! ### standings -/
def sAt (xs : List Int) (i : Int) : Int := xs.getD i.toNat 0
theorem ixS {xs : List Int} {i : Int} (h : 0 ≤ i) (h2 : i < xs.length) : ixM xs i = .ok (sAt xs i) := by
  obtain ⟨x, h3, h4⟩ := ixK h h2
  rw [h4]
  unfold sAt
  rw [List.getD_eq_getElem?_getD, h3]
  rfl
theorem sAt_mem {xs : List Int} {i : Int} (h : 0 ≤ i) (h2 : i < xs.length) : sAt xs i ∈ xs := by
  unfold sAt
  have hl : i.toNat < xs.length := by omega
  rw [List.getD_eq_getElem?_getD, List.getElem?_eq_getElem hl]
  exact List.getElem_mem hl
/-- a good standing -/
structure Good (b : BV) : Prop where
  ne : 0 < b.strengths.length
  len : b.lengths.length = b.strengths.length
  big : b.strengths.length ≤ 90000
  s0 : ∀ s ∈ b.strengths, 0 ≤ s
  l1 : ∀ z ∈ b.lengths, 1 ≤ z
theorem initK {ss zs : List Int} {r : Bool} (g : Good ⟨ss, zs, r⟩) : k_Beads___init__ ss zs r = .ok ⟨ss, zs, r⟩ := by
  obtain ⟨h1, h2, h3, h4, h5⟩ := g
  simp only at h1 h2 h3 h4 h5
  unfold k_Beads___init__ kc_Beads___init__
  simp only
  have e1 : ¬ ss = [] := fun e => by rw [e] at h1; exact absurd h1 (by decide)
  have e2 : (zs.length : Int) = (ss.length : Int) := by omega
  rw [if_neg (by simp [e1, e2]), rngK (by decide) (by decide) (by omega) (by omega), mbk, forM_pass, sqk]
  · rfl
  · intro k hk
    obtain ⟨q1, q2⟩ := mem_rng.mp hk
    have a1 := h4 _ (sAt_mem q1 q2)
    have a2 := h5 _ (sAt_mem (xs := zs) q1 (by omega))
    rw [ixS q1 q2, ixS q1 (by omega)]
    simp only [mbk]
    rw [if_neg (by simp; omega)]
    simp only [mbk]
    rw [if_neg (by simp; omega)]
theorem lenK {b : BV} (h : b.strengths.length ≤ 90000) : mb (k_Beads___len__ b) lenO = .ok (b.strengths.length : Int) := by
  show mb (.ok (b.strengths.length : Int)) lenO = _
  rw [mbk]
  unfold lenO
  rw [if_pos ⟨by omega, by omega⟩]
theorem checkK {p n : Int} (h : 0 ≤ p) (h2 : p < n) : k_check_place p n = .ok () := by
  unfold k_check_place kc_check_place
  rw [if_neg (by simp; omega)]; rfl
theorem checkE {p n : Int} (h : p < 0 ∨ n ≤ p) : k_check_place p n = .er ⟨"BadPlace", [("place", eI p)]⟩ := by
  unfold k_check_place kc_check_place
  rw [if_pos (by simp; omega)]; rfl
/-- the places from p on, in their order -/
def runsV (ring : Bool) (n p : Int) : List Int := rng (p + 1) n ++ if ring = true then rng 0 p else []
theorem runs_mem {ring : Bool} {n p x : Int} (h0 : 0 ≤ p) (h1 : p < n) (h : x ∈ runsV ring n p) : 0 ≤ x ∧ x < n := by
  unfold runsV at h
  rcases List.mem_append.mp h with h | h
  · have := mem_rng.mp h; omega
  · split at h
    · have := mem_rng.mp h; omega
    · cases h
theorem runs_len {ring : Bool} {n p : Int} (h0 : 0 ≤ p) (h1 : p < n) : (runsV ring n p).length ≤ n.toNat := by
  unfold runsV
  rw [List.length_append, rng_len]
  split
  · rw [rng_len]; omega
  · rw [List.length_nil]; omega
theorem runK {b : BV} {p : Int} (h : b.strengths.length ≤ 90000) (h1 : 0 ≤ p) (h2 : p < b.strengths.length) : k_run_of b p = .ok (runsV b.ring b.strengths.length p) := by
  unfold k_run_of kc_run_of
  rw [lenK h, mbk, rngLK (by omega) (by omega) (by omega) (by omega), mbk, rngLK (by omega) (by omega) (by omega) (by omega), mbk]
  unfold runsV
  cases b.ring with
  | true =>
    rw [if_pos rfl, catK (by rw [rng_len, rng_len]; omega)]
    simp only [mbk, sqk]
    rfl
  | false =>
    simp only [Bool.false_eq_true, if_false, sqk, List.append_nil]
    rfl
def trainV (ring : Bool) (ss : List Int) (p : Int) : List Int := (runsV ring ss.length p).takeWhile fun x => !decide (sAt ss p ≤ sAt ss x)
def stopV (ring : Bool) (ss : List Int) (p : Int) : Option Int := (runsV ring ss.length p).find? fun x => decide (sAt ss p ≤ sAt ss x)
theorem train_mem {ring : Bool} {ss : List Int} {p x : Int} (h0 : 0 ≤ p) (h1 : p < ss.length) (h : x ∈ trainV ring ss p) : 0 ≤ x ∧ x < ss.length := runs_mem h0 h1 (List.takeWhile_subset _ h)
theorem train_len {ring : Bool} {ss : List Int} {p : Int} (h0 : 0 ≤ p) (h1 : p < ss.length) : (trainV ring ss p).length ≤ ss.length := by
  have := runs_len (ring := ring) h0 h1
  have := tw_len (fun x => !decide (sAt ss p ≤ sAt ss x)) (runsV ring ss.length p)
  unfold trainV
  omega
theorem trainLoop {δ ρ : Type} {ss xs : List Int} {p : Int} (hp : 0 ≤ p ∧ p < ss.length) (h : ∀ x ∈ xs, 0 ≤ x ∧ x < ss.length) (hl : xs.length ≤ 900000) :
    (forM (fun (at4 : Int) (s5 : List Int) => mb (mb (ixM ss at4) fun v6 => mb (ixM ss p) fun v7 => (.ok (decide (v7 ≤ v6)))) fun v8 => if v8 = true then .ok (.bk s5) else mb (app s5 at4) fun train9 => .ok (.nx train9)) xs [] : M (Out (List Int) δ ρ)) =
      .ok (.nx (xs.takeWhile fun x => !decide (sAt ss p ≤ sAt ss x))) := by
  simp only [ixS hp.1 hp.2, mbk]
  have key : ∀ (ys acc : List Int), (∀ x ∈ ys, 0 ≤ x ∧ x < ss.length) → acc.length + ys.length ≤ 900000 → (forM (fun (at4 : Int) (s5 : List Int) => mb (mb (ixM ss at4) fun v6 => .ok (decide (sAt ss p ≤ v6))) fun v8 => if v8 = true then .ok (.bk s5) else mb (app s5 at4) fun train9 => .ok (.nx train9)) ys acc : M (Out (List Int) δ ρ)) =
      .ok (.nx (acc ++ ys.takeWhile fun x => !decide (sAt ss p ≤ sAt ss x))) := by
    intro ys
    induction ys with
    | nil => intro acc _ _; simp
    | cons y ys ih =>
      intro acc hy hlen
      unfold forM
      have h1 := hy y List.mem_cons_self
      rw [List.length_cons] at hlen
      rw [ixS h1.1 h1.2]
      simp only [mbk]
      by_cases c : sAt ss p ≤ sAt ss y
      · rw [if_pos (decide_eq_true c)]
        simp [c]
      · rw [if_neg (by simp [c]), appK (by omega)]
        simp only [mbk]
        rw [ih _ (fun x hx => hy x (List.mem_cons_of_mem _ hx)) (by rw [List.length_append, List.length_singleton]; omega)]
        simp [c]
  have := key xs [] h (by simpa using hl)
  simpa using this
theorem trainK {b : BV} {p : Int} (h : b.strengths.length ≤ 90000) (h1 : 0 ≤ p) (h2 : p < b.strengths.length) : k_train_of b p = .ok (trainV b.ring b.strengths p) := by
  unfold k_train_of kc_train_of
  have rl := runs_len (ring := b.ring) h1 h2
  rw [lenK h, mbk, checkK h1 h2, mbk, runK h h1 h2, mbk, trainLoop ⟨h1, h2⟩ (fun x hx => runs_mem h1 h2 hx) (by omega), sqk]
  rfl
theorem trainE {b : BV} {p : Int} (h : b.strengths.length ≤ 90000) (h1 : p < 0 ∨ (b.strengths.length : Int) ≤ p) : k_train_of b p = .er ⟨"BadPlace", [("place", eI p)]⟩ := by
  unfold k_train_of kc_train_of
  rw [lenK h, mbk, checkE h1]
  rfl
def reachV (b : BV) (p : Int) : Int := sAt b.lengths p + ((trainV b.ring b.strengths p).map (sAt b.lengths)).sum
theorem reachK {b : BV} {p : Int} (g : Good b) (h1 : 0 ≤ p) (h2 : p < b.strengths.length) : k_reach_of b p = .ok (reachV b p) := by
  unfold k_reach_of kc_reach_of
  have hl := train_len (ring := b.ring) h1 h2
  have := g.big
  have := g.len
  rw [trainK g.big h1 h2, mbk, ixS h1 (by omega), mbk, mapC_ok (g := sAt b.lengths) (lineK (by omega)) fun x hx => by
    have := train_mem h1 h2 hx
    exact ixS this.1 (by omega)]
  simp only [mbk]
  rfl
theorem reachE {b : BV} {p : Int} (h : b.strengths.length ≤ 90000) (h1 : p < 0 ∨ (b.strengths.length : Int) ≤ p) : k_reach_of b p = .er ⟨"BadPlace", [("place", eI p)]⟩ := by
  unfold k_reach_of kc_reach_of
  rw [trainE h h1]
  rfl
theorem stopK {b : BV} {p : Int} (h : b.strengths.length ≤ 90000) (h1 : 0 ≤ p) (h2 : p < b.strengths.length) : k_stopper_of b p = .ok (stopV b.ring b.strengths p) := by
  unfold k_stopper_of kc_stopper_of
  rw [lenK h, mbk, checkK h1 h2, mbk, runK h h1 h2, mbk, forM_ret (fun x => decide (sAt b.strengths p ≤ sAt b.strengths x)) some]
  · unfold stopV
    cases (runsV b.ring b.strengths.length p).find? fun x => decide (sAt b.strengths p ≤ sAt b.strengths x) with
    | none => rfl
    | some x => rfl
  · intro x hx
    have := runs_mem h1 h2 hx
    rw [ixS this.1 this.2, ixS h1 h2]
    simp only [mbk]
theorem stopE {b : BV} {p : Int} (h : b.strengths.length ≤ 90000) (h1 : p < 0 ∨ (b.strengths.length : Int) ≤ p) : k_stopper_of b p = .er ⟨"BadPlace", [("place", eI p)]⟩ := by
  unfold k_stopper_of kc_stopper_of
  rw [lenK h, mbk, checkE h1]
  rfl
theorem reachesK {b : BV} (g : Good b) : k_reaches b = .ok ((rng 0 b.strengths.length).map (reachV b)) := by
  unfold k_reaches kc_reaches
  have := g.big
  rw [lenK g.big, mbk, rngK (by decide) (by decide) (by omega) (by omega), mbk, mapC_ok (g := reachV b) (lineK (by rw [rng_len]; omega)) fun x hx => reachK g (mem_rng.mp hx).1 (mem_rng.mp hx).2, mbk]
  rfl
/-! ### steps around a ring, along a row -/
section
variable {α β γ δ ρ : Type}
theorem forM_map {f : α → β} {b : β → γ → M (Out γ γ ρ)} : ∀ {xs : List α} {s0 : γ}, (forM (fun x s => b (f x) s) xs s0 : M (Out γ δ ρ)) = forM b (xs.map f) s0
  | [], _ => rfl
  | x :: xs, s0 => by
    rw [List.map_cons]
    unfold forM
    have ih : ∀ s, (forM (fun x s => b (f x) s) xs s : M (Out γ δ ρ)) = forM b (xs.map f) s := fun s => forM_map
    cases b (f x) s0 with
    | ok o => cases o <;> simp [ih]
    | er e => rfl
    | no => rfl
/-- what stands behind only leaves -/
theorem forM_appB {f : α → γ → M (Out γ γ ρ)} {ys : List α} (h : ∀ y ∈ ys, ∀ s, f y s = .ok (.bk s)) : ∀ {xs : List α} {s0 : γ}, (forM f (xs ++ ys) s0 : M (Out γ δ ρ)) = forM f xs s0
  | [], s0 => by
    cases ys with
    | nil => rfl
    | cons y ys =>
      rw [List.nil_append]
      unfold forM
      rw [h y List.mem_cons_self]
  | x :: xs, s0 => by
    rw [List.cons_append]
    unfold forM
    have ih : ∀ s, (forM f (xs ++ ys) s : M (Out γ δ ρ)) = forM f xs s := fun s => forM_appB h
    cases f x s0 with
    | ok o => cases o <;> simp [ih]
    | er e => rfl
    | no => rfl
theorem map_at {n p : Int} (h0 : 0 ≤ p) (h1 : p < n) : (rng 1 n).map (fun x => if n ≤ p + x then p + x - n else p + x) = rng (p + 1) n ++ rng 0 p := by
  rw [rng_app (lo := 1) (mid := n - p) (hi := n) (by omega) (by omega), List.map_append]
  congr 1
  · rw [show rng (p + 1) n = rng (1 + p) (n - p + p) by congr 1 <;> omega, ← rng_map]
    apply List.map_congr_left
    intro x hx
    have := mem_rng.mp hx
    rw [if_neg (by omega)]
    omega
  · rw [show rng 0 p = rng (n - p + (p - n)) (n + (p - n)) by congr 1 <;> omega, ← rng_map]
    apply List.map_congr_left
    intro x hx
    have := mem_rng.mp hx
    rw [if_pos (by omega)]
    omega
theorem stepsK {ring : Bool} {n p : Int} (b : Int → γ → M (Out γ γ ρ)) (s0 : γ) (h0 : 0 ≤ p) (h1 : p < n) :
    (forM (fun (x : Int) (s : γ) => sq (if (decide (n ≤ (p + x))) = true then if (!ring) = true then .ok (.bk s) else .ok (.nx ((p + x) - n)) else .ok (.nx (p + x))) fun (j : Int) => b j s) (rng 1 n) s0 : M (Out γ δ ρ)) = forM b (runsV ring n p) s0 := by
  unfold runsV
  cases ring with
  | true =>
    rw [if_pos rfl, ← map_at h0 h1, ← forM_map]
    apply forM_congr
    intro x hx s
    by_cases q : n ≤ p + x
    · rw [if_pos (decide_eq_true q), if_neg (by decide), sqk, if_pos q]
    · rw [if_neg (by simp [q]), sqk, if_neg q]
  | false =>
    rw [if_neg (by decide), List.append_nil, rng_app (lo := 1) (mid := n - p) (hi := n) (by omega) (by omega), forM_appB]
    · rw [show rng (p + 1) n = rng (1 + p) (n - p + p) by congr 1 <;> omega, ← rng_map, ← forM_map]
      apply forM_congr
      intro x hx s
      have := mem_rng.mp hx
      rw [if_neg (by simp; omega), sqk]
      congr 1
      omega
    · intro x hx s
      have := mem_rng.mp hx
      rw [if_pos (by simp; omega), if_pos (by decide)]
      rfl
theorem foldl_sum {g : Int → Int} : ∀ (xs : List Int) (a : Int), xs.foldl (fun s x => s + g x) a = a + (xs.map g).sum
  | [], a => by simp
  | x :: xs, a => by
    rw [List.foldl_cons, foldl_sum xs, List.map_cons, List.sum_cons]
    omega
/-- taken up to the first that c tells, which is returned as well -/
theorem walkLoop {ss : List Int} {p : Int} (hp : 0 ≤ p ∧ p < ss.length) : ∀ (xs acc : List Int), (∀ x ∈ xs, 0 ≤ x ∧ x < ss.length) → acc.length + xs.length ≤ 900000 →
    (forM (fun (j : Int) (s : List Int) => mb (mb (ixM ss j) fun v1 => mb (ixM ss p) fun v2 => (.ok (decide (v2 ≤ v1)))) fun v3 => if v3 = true then .ok (.rt (s, some j)) else mb (app s j) fun t => .ok (.nx t)) xs acc : M (Out (List Int) δ (List Int × Option Int))) =
      match xs.find? fun x => decide (sAt ss p ≤ sAt ss x) with
      | some x => .ok (.rt (acc ++ xs.takeWhile (fun x => !decide (sAt ss p ≤ sAt ss x)), some x))
      | none => .ok (.nx (acc ++ xs.takeWhile fun x => !decide (sAt ss p ≤ sAt ss x)))
  | [], acc, _, _ => by simp
  | y :: ys, acc, hy, hlen => by
    unfold forM
    have h1 := hy y List.mem_cons_self
    rw [List.length_cons] at hlen
    rw [ixS h1.1 h1.2, ixS hp.1 hp.2]
    simp only [mbk]
    by_cases c : sAt ss p ≤ sAt ss y
    · rw [if_pos (decide_eq_true c)]
      simp [c]
    · rw [if_neg (by simp [c]), appK (by omega)]
      simp only [mbk]
      have ih := walkLoop hp ys (acc ++ [y]) (fun x hx => hy x (List.mem_cons_of_mem _ hx)) (by rw [List.length_append, List.length_singleton]; omega)
      simp only [ixS hp.1 hp.2, mbk] at ih
      rw [ih]
      simp [c]
end
end DL

namespace DL
open PySem L2
/-! ## wakings -/
def kc__law_reach (round_flag : Bool) (sizes : (List Int)) (strengths : (List Int)) (place : Int) : M (Out Unit Empty Int) := mb (ixM sizes place) fun total1 =>
    mb (rngM 1 (sizes.length : Int)) fun v2 => sq (forM (fun (step3 : Int) (s4 : Int) =>
    sq (if (decide ((sizes.length : Int) ≤ (place + step3))) = true then if (!round_flag) = true then .ok (.bk s4)
    else .ok (.nx ((place + step3) - (sizes.length : Int))) else .ok (.nx (place + step3))) fun (j5 : Int) =>
    mb (mb (ixM strengths j5) fun v6 => mb (ixM strengths place) fun v7 => (.ok (decide (v7 ≤ v6)))) fun v8 => if v8 = true then .ok (.bk s4)
    else mb (mb (ixM sizes j5) fun v9 => (.ok (s4 + v9))) fun total10 =>
    .ok (.nx total10)) v2 total1) fun s11 =>
    .ok (.rt s11)
def k__law_reach (round_flag : Bool) (sizes : (List Int)) (strengths : (List Int)) (place : Int) : M Int := fnV .no (kc__law_reach round_flag sizes strengths place)
def kc__law_woken (round_flag : Bool) (sizes : (List Int)) (strengths : (List Int)) (places : (List Int)) : M (Out Unit Empty (List Int)) := sq (forM (fun (place1 : Int) (s2 : List Int) =>
    mb (k__law_reach round_flag sizes strengths place1) fun v3 => mb (setM s2 place1 v3) fun after4 =>
    .ok (.nx after4)) places strengths) fun s5 =>
    .ok (.rt s5)
def k__law_woken (round_flag : Bool) (sizes : (List Int)) (strengths : (List Int)) (places : (List Int)) : M (List Int) := fnV .no (kc__law_woken round_flag sizes strengths places)
def kc__law_settled (round_flag : Bool) (sizes : (List Int)) (strengths : (List Int)) : M (Out Unit Empty (List Int)) := mb (rngM 0 80) fun v1 => sq (forM (fun (step2 : Int) (s3 : (List Int)) =>
    mb (mb (rngL 0 (s3.length : Int)) fun v4 => k__law_woken round_flag sizes s3 v4) fun after5 =>
    if (decide (after5 = s3)) = true then .ok (.bk s3)
    else .ok (.nx after5)) v1 strengths) fun s6 =>
    .ok (.rt s6)
def k__law_settled (round_flag : Bool) (sizes : (List Int)) (strengths : (List Int)) : M (List Int) := fnV .no (kc__law_settled round_flag sizes strengths)
def kc__law_handed (places : (List Int)) (as_tuple : Bool) : M (Out Unit Empty (Bool × List Int)) := if as_tuple = true then .ok (.rt (true, places))
    else .ok (.rt (false, places))
def k__law_handed (places : (List Int)) (as_tuple : Bool) : M (Bool × List Int) := fnV .no (kc__law_handed places as_tuple)
def kc_distinct (handful : (Bool × List Int)) (size : Int) : M (Out Unit Empty (List Int)) := sq (forM (fun (place1 : Int) (s2 : Unit) =>
    mb (k_check_place place1 size) fun v3 => .ok (.nx ())) handful.2 ()) fun s4 =>
    mb (sortSet handful.2) fun v5 => .ok (.rt v5)
def k_distinct (handful : (Bool × List Int)) (size : Int) : M (List Int) := fnV .no (kc_distinct handful size)
def kc_changes_of (beads : BV) (handful : (Bool × List Int)) : M (Out Unit Empty (List (Int × Int × Int))) := mb (mb (mb (k_Beads___len__ beads) lenO) fun v1 => k_distinct handful v1) fun v2 => sq (forM (fun (place3 : Int) (s4 : List (Int × Int × Int)) =>
    mb (ixM beads.strengths place3) fun before5 =>
    mb (k_reach_of beads place3) fun after6 =>
    if (!decide (after6 = before5)) = true then mb (app s4 (place3, before5, after6)) fun changes7 =>
    .ok (.nx changes7)
    else .ok (.nx s4)) v2 ([] : List (Int × Int × Int))) fun s8 =>
    .ok (.rt s8)
def k_changes_of (beads : BV) (handful : (Bool × List Int)) : M (List (Int × Int × Int)) := fnV .no (kc_changes_of beads handful)
def kc_replaced (beads : BV) (changes : (List (Int × Int × Int))) : M (Out Unit Empty BV) := sq (forM (fun (x1 : (Int × Int × Int)) (s2 : List Int) =>
    mb (setM s2 x1.1 x1.2.2) fun strengths3 =>
    .ok (.nx strengths3)) changes beads.strengths) fun s4 =>
    mb (k_Beads___init__ s4 beads.lengths beads.ring) fun v5 => .ok (.rt v5)
def k_replaced (beads : BV) (changes : (List (Int × Int × Int))) : M BV := fnV .no (kc_replaced beads changes)
def kc_wake (beads : BV) (handful : (Bool × List Int)) : M (Out Unit Empty BV) := mb (mb (k_changes_of beads handful) fun v1 => k_replaced beads v1) fun v2 => .ok (.rt v2)
def k_wake (beads : BV) (handful : (Bool × List Int)) : M BV := fnV .no (kc_wake beads handful)
def kc__law_numbersQ (actual : (Bool × List Int)) (due : (List Int)) (as_tuple : Bool) : M (Out Unit Empty Bool) := if ((as_tuple && (!actual.1)) || ((!as_tuple) && (!(!actual.1)))) = true then .ok (.rt false)
    else if (!decide ((actual.2.length : Int) = (due.length : Int))) = true then .ok (.rt false)
    else mb (rngM 0 (due.length : Int)) fun v1 => sq (forM (fun (k2 : Int) (s3 : Unit) =>
    mb (mb (mb (mb (ixM actual.2 k2) fun v4 => k__law_is_integer v4) fun v5 => (.ok (!v5))) fun v6 => if v6 = true then .ok true else mb (ixM actual.2 k2) fun v7 => mb (ixM due k2) fun v8 => (.ok (!decide (v7 = v8)))) fun v9 => if v9 = true then .ok (.rt false)
    else .ok (.nx ())) v1 ()) fun s10 =>
    .ok (.rt true)
def k__law_numbersQ (actual : (Bool × List Int)) (due : (List Int)) (as_tuple : Bool) : M Bool := fnV .no (kc__law_numbersQ actual due as_tuple)
def kc__law_is_changes (actual : (List (Int × Int × Int))) (due : (List (Int × Int × Int))) : M (Out Unit Empty Bool) := if ((!true) || (!decide ((actual.length : Int) = (due.length : Int)))) = true then .ok (.rt false)
    else mb (rngM 0 (due.length : Int)) fun v1 => sq (forM (fun (k2 : Int) (s3 : Unit) =>
    mb (mb (mb (mb (ixM actual k2) fun v4 => (.ok [v4.1, v4.2.1, v4.2.2])) fun v5 => mb (mb (ixM due k2) fun v6 => (.ok [v6.1, v6.2.1, v6.2.2])) fun v7 => k__law_numbers_v1 v5 v7 true) fun v8 => (.ok (!v8))) fun v9 => if v9 = true then .ok (.rt false)
    else .ok (.nx ())) v1 ()) fun s10 =>
    .ok (.rt true)
def k__law_is_changes (actual : (List (Int × Int × Int))) (due : (List (Int × Int × Int))) : M Bool := fnV .no (kc__law_is_changes actual due)
def kc_wake_all (beads : BV) : M (Out Unit Empty BV) := mb (mb (k_reaches beads) fun v1 => k_Beads___init__ v1 beads.lengths beads.ring) fun v2 => .ok (.rt v2)
def k_wake_all (beads : BV) : M BV := fnV .no (kc_wake_all beads)
def kc__law_restless (round_flag : Bool) (sizes : (List Int)) (strengths : (List Int)) : M (Out Unit Empty (List Int)) := mb (mb (rngM 0 (sizes.length : Int)) fun v1 => lcM (fun k2 => mb (k__law_reach round_flag sizes strengths k2) fun v3 => mb (ixM strengths k2) fun v4 => (.ok (!decide (v3 = v4)))) (fun k2 => (.ok k2)) v1) fun v5 => .ok (.rt v5)
def k__law_restless (round_flag : Bool) (sizes : (List Int)) (strengths : (List Int)) : M (List Int) := fnV .no (kc__law_restless round_flag sizes strengths)
def kc_restless (beads : BV) : M (Out Unit Empty (List Int)) := mb (k_reaches beads) fun after1 =>
    mb (mb (mb (mb (k_Beads___len__ beads) lenO) fun v2 => rngM 0 v2) fun v3 => lcM (fun place4 => mb (ixM after1 place4) fun v5 => mb (ixM beads.strengths place4) fun v6 => (.ok (!decide (v5 = v6)))) (fun place4 => (.ok place4)) v3) fun v7 => .ok (.rt v7)
def k_restless (beads : BV) : M (List Int) := fnV .no (kc_restless beads)
def kc_hungry (beads : BV) : M (Out Unit Empty (List Int)) := mb (k_reaches beads) fun after1 =>
    mb (mb (mb (mb (k_Beads___len__ beads) lenO) fun v2 => rngM 0 v2) fun v3 => lcM (fun place4 => mb (ixM after1 place4) fun v5 => mb (ixM beads.strengths place4) fun v6 => (.ok (decide (v6 < v5)))) (fun place4 => (.ok place4)) v3) fun v7 => .ok (.rt v7)
def k_hungry (beads : BV) : M (List Int) := fnV .no (kc_hungry beads)
def kc_at_rest (beads : BV) : M (Out Unit Empty Bool) := mb (mb (mb (k_restless beads) fun v1 => (.ok (v1.length : Int))) fun v2 => (.ok (decide (v2 = 0)))) fun v3 => .ok (.rt v3)
def k_at_rest (beads : BV) : M Bool := fnV .no (kc_at_rest beads)

theorem lawReachK {r : Bool} {zs ss : List Int} {p : Int} (hl : zs.length = ss.length) (hb : ss.length ≤ 90000) (h1 : 0 ≤ p) (h2 : p < ss.length) : k__law_reach r zs ss p = .ok (reachV ⟨ss, zs, r⟩ p) := by
  unfold k__law_reach kc__law_reach
  rw [ixS h1 (by omega), mbk, rngK (by decide) (by decide) (by omega) (by omega), mbk, show (zs.length : Int) = (ss.length : Int) by omega]
  rw [stepsK (fun (j : Int) (s : Int) => mb (mb (ixM ss j) fun v224 => mb (ixM ss p) fun v225 => (.ok (decide (v225 ≤ v224)))) fun v228 => if v228 = true then .ok (.bk s) else mb (mb (ixM zs j) fun v226 => (.ok (s + v226))) fun total227 => .ok (.nx total227)) _ h1 h2]
  rw [forM_brk (fun x => decide (sAt ss p ≤ sAt ss x)) (fun x s => s + sAt zs x)]
  · rw [sqk, foldl_sum]
    rfl
  · intro x hx s
    have := runs_mem h1 h2 hx
    rw [ixS this.1 this.2, ixS h1 h2, ixS this.1 (by omega)]
    simp only [mbk]
theorem sum_nn : ∀ {xs : List Int}, (∀ x ∈ xs, 0 ≤ x) → 0 ≤ xs.sum
  | [], _ => Int.le_refl 0
  | x :: xs, h => by
    rw [List.sum_cons]
    have := h x List.mem_cons_self
    have := sum_nn (xs := xs) fun y hy => h y (List.mem_cons_of_mem _ hy)
    omega
theorem reach_pos {b : BV} {p : Int} (g : Good b) (h1 : 0 ≤ p) (h2 : p < b.strengths.length) : 1 ≤ reachV b p := by
  have hz := g.len
  have a := g.l1 _ (sAt_mem (xs := b.lengths) h1 (by omega))
  have : 0 ≤ ((trainV b.ring b.strengths p).map (sAt b.lengths)).sum := sum_nn fun x hx => by
    obtain ⟨q, hq, rfl⟩ := List.mem_map.mp hx
    have t := train_mem h1 h2 hq
    have := g.l1 _ (sAt_mem (xs := b.lengths) t.1 (by omega))
    omega
  unfold reachV
  omega
/-! ### the strengths after the places qs have woken -/
def wkV (b : BV) (qs : List Int) : List Int := (rng 0 b.strengths.length).map fun k => if k ∈ qs then reachV b k else sAt b.strengths k
theorem wkV_len (b : BV) (qs : List Int) : (wkV b qs).length = b.strengths.length := by unfold wkV; rw [List.length_map, rng_len]; omega
theorem wkV_at {b : BV} {qs : List Int} {k : Int} (h1 : 0 ≤ k) (h2 : k < b.strengths.length) : sAt (wkV b qs) k = if k ∈ qs then reachV b k else sAt b.strengths k := by
  unfold sAt wkV
  rw [List.getD_eq_getElem?_getD, List.getElem?_map, rng_get (by omega)]
  simp only [Option.map_some, Option.getD_some]
  rw [show (0 : Int) + (k.toNat : Int) = k by omega]
  rfl
theorem sAt_ext {xs ys : List Int} (hl : xs.length = ys.length) (h : ∀ k : Int, 0 ≤ k → k < xs.length → sAt xs k = sAt ys k) : xs = ys := by
  apply List.ext_getElem hl
  intro i h1 h2
  have := h (i : Int) (by omega) (by omega)
  unfold sAt at this
  rw [List.getD_eq_getElem?_getD, List.getD_eq_getElem?_getD, Int.toNat_natCast, List.getElem?_eq_getElem h1, List.getElem?_eq_getElem h2] at this
  exact this
theorem wkV_nil (b : BV) : wkV b [] = b.strengths := sAt_ext (wkV_len b []) fun k h1 h2 => by
  rw [wkV_len] at h2
  rw [wkV_at h1 h2, if_neg (by simp)]
theorem wkV_congr {b : BV} {ps qs : List Int} (h : ∀ k : Int, 0 ≤ k → k < b.strengths.length → (k ∈ ps ↔ k ∈ qs)) : wkV b ps = wkV b qs := by
  refine sAt_ext (by rw [wkV_len, wkV_len]) fun k h1 h2 => ?_
  rw [wkV_len] at h2
  rw [wkV_at h1 h2, wkV_at h1 h2]
  by_cases q : k ∈ ps
  · rw [if_pos q, if_pos ((h k h1 h2).mp q)]
  · rw [if_neg q, if_neg fun z => q ((h k h1 h2).mpr z)]
theorem setK {xs : List Int} {i x : Int} (h1 : 0 ≤ i) (h2 : i < xs.length) : setM xs i x = .ok (xs.set i.toNat x) := by
  obtain ⟨n, rfl⟩ := Int.eq_ofNat_of_zero_le h1
  have e : ixN xs.length (n : Int) = some n := by
    unfold ixN
    rw [if_pos h1, if_pos h2]
    rfl
  unfold setM
  rw [e]
  rfl
theorem sAt_set {xs : List Int} {i k x : Int} (h1 : 0 ≤ i) (h2 : i < xs.length) (h3 : 0 ≤ k) : sAt (xs.set i.toNat x) k = if k = i then x else sAt xs k := by
  unfold sAt
  rw [List.getD_eq_getElem?_getD, List.getD_eq_getElem?_getD]
  by_cases q : k = i
  · subst q
    rw [if_pos rfl, List.getElem?_set_self (by omega)]
    rfl
  · rw [if_neg q, List.getElem?_set_ne (by omega)]
theorem wkV_set {b : BV} {qs : List Int} {p : Int} (h1 : 0 ≤ p) (h2 : p < b.strengths.length) : (wkV b qs).set p.toNat (reachV b p) = wkV b (p :: qs) := by
  refine sAt_ext (by rw [List.length_set, wkV_len, wkV_len]) fun k h3 h4 => ?_
  rw [List.length_set, wkV_len] at h4
  rw [sAt_set h1 (by rw [wkV_len]; exact h2) h3, wkV_at h3 h4, wkV_at h3 h4]
  by_cases q : k = p
  · subst q
    rw [if_pos rfl, if_pos List.mem_cons_self]
  · rw [if_neg q]
    simp [q]
theorem wkV_same {b : BV} {qs : List Int} {p : Int} (h1 : 0 ≤ p) (h2 : p < b.strengths.length) (h : reachV b p = sAt b.strengths p) : wkV b (p :: qs) = wkV b qs := by
  refine sAt_ext (by rw [wkV_len, wkV_len]) fun k h3 h4 => ?_
  rw [wkV_len] at h4
  rw [wkV_at h3 h4, wkV_at h3 h4]
  by_cases q : k = p
  · subst q
    rw [if_pos List.mem_cons_self, h]
    simp
  · simp [q]
theorem wkV_nn {b : BV} {qs : List Int} (g : Good b) : ∀ s ∈ wkV b qs, 0 ≤ s := fun s hs => by
  unfold wkV at hs
  obtain ⟨k, hk, rfl⟩ := List.mem_map.mp hs
  have := mem_rng.mp hk
  split
  · have := reach_pos g this.1 this.2
    omega
  · exact g.s0 _ (sAt_mem this.1 this.2)
theorem good_wk {b : BV} {qs : List Int} (g : Good b) : Good ⟨wkV b qs, b.lengths, b.ring⟩ :=
  ⟨by show 0 < (wkV b qs).length; rw [wkV_len]; exact g.ne, by show b.lengths.length = (wkV b qs).length; rw [wkV_len]; exact g.len, by show (wkV b qs).length ≤ 90000; rw [wkV_len]; exact g.big, wkV_nn g, g.l1⟩
/-- the loop of wakings -/
theorem wkLoop {δ ρ : Type} {r : Bool} {zs ss : List Int} (g : Good ⟨ss, zs, r⟩) : ∀ (ps qs : List Int), (∀ p ∈ ps, 0 ≤ p ∧ p < ss.length) →
    (forM (fun (p : Int) (s : List Int) => mb (k__law_reach r zs ss p) fun v => mb (setM s p v) fun a => .ok (.nx a)) ps (wkV ⟨ss, zs, r⟩ qs) : M (Out (List Int) δ ρ)) = .ok (.nx (wkV ⟨ss, zs, r⟩ (ps.reverse ++ qs)))
  | [], qs, _ => rfl
  | p :: ps, qs, h => by
    unfold forM
    have hp := h p List.mem_cons_self
    have hz : zs.length = ss.length := g.len
    have hb : ss.length ≤ 90000 := g.big
    rw [lawReachK hz hb hp.1 hp.2, mbk, setK hp.1 (by rw [wkV_len]; exact hp.2), mbk]
    simp only
    rw [wkV_set (b := ⟨ss, zs, r⟩) hp.1 hp.2, wkLoop g ps (p :: qs) fun x hx => h x (List.mem_cons_of_mem _ hx)]
    rw [List.reverse_cons, List.append_assoc]
    rfl
theorem wokenK {r : Bool} {zs ss ps : List Int} (g : Good ⟨ss, zs, r⟩) (h : ∀ p ∈ ps, 0 ≤ p ∧ p < ss.length) : k__law_woken r zs ss ps = .ok (wkV ⟨ss, zs, r⟩ ps) := by
  unfold k__law_woken kc__law_woken
  have := wkLoop (δ := Empty) (ρ := List Int) g ps [] h
  rw [wkV_nil] at this
  rw [this, sqk, wkV_congr (qs := ps) fun k _ _ => by simp]
  rfl
/-! ### the first that is refused -/
theorem forM_er {α γ δ ρ : Type} {f : α → γ → M (Out γ γ ρ)} (c : α → Bool) (e : α → Ex) : ∀ {xs : List α} {s0 : γ}, (∀ x ∈ xs, f x s0 = if c x then .er (e x) else .ok (.nx s0)) →
    (forM f xs s0 : M (Out γ δ ρ)) = match xs.find? c with
      | some x => .er (e x)
      | none => .ok (.nx s0)
  | [], _, _ => rfl
  | x :: xs, s0, h => by
    unfold forM
    rw [h x List.mem_cons_self]
    cases hc : c x with
    | true => simp [hc]
    | false =>
      simp only [Bool.false_eq_true, if_false, List.find?, hc]
      exact forM_er c e fun y hy => h y (List.mem_cons_of_mem _ hy)
def badP (n : Int) (x : Int) : Bool := decide (x < 0) || decide (n ≤ x)
theorem checkL {δ ρ : Type} {n : Int} {ps : List Int} : (forM (fun (p : Int) (s : Unit) => mb (k_check_place p n) fun v => .ok (.nx ())) ps () : M (Out Unit δ ρ)) = match ps.find? (badP n) with
    | some x => .er ⟨"BadPlace", [("place", eI x)]⟩
    | none => .ok (.nx ()) := by
  have := forM_er (γ := Unit) (δ := δ) (ρ := ρ) (f := fun (p : Int) (s : Unit) => mb (k_check_place p n) fun v => .ok (.nx ())) (badP n) (fun x => ⟨"BadPlace", [("place", eI x)]⟩) (xs := ps) (s0 := ()) (fun x hx => ?_)
  · refine this.trans ?_
    cases ps.find? (badP n) <;> rfl
  unfold badP
  by_cases q : x < 0 ∨ n ≤ x
  · rw [checkE q, if_pos (by simp; exact q)]
    rfl
  · have q1 : 0 ≤ x := by omega
    have q2 : x < n := by omega
    rw [checkK q1 q2, if_neg (by simp; omega)]
    rfl
theorem good_ps {n : Int} {ps : List Int} (h : ∀ p ∈ ps, 0 ≤ p ∧ p < n) : ps.find? (badP n) = none := by
  rw [List.find?_eq_none]
  intro x hx
  have := h x hx
  unfold badP
  simp
  omega
theorem distinctK {t : Bool} {ps : List Int} {n : Int} (h : ∀ p ∈ ps, 0 ≤ p ∧ p < n) (hl : ps.length < 64) : k_distinct (t, ps) n = .ok (usort ps) := by
  unfold k_distinct kc_distinct
  rw [checkL, good_ps h]
  simp only [sqk]
  unfold sortSet
  rw [if_pos hl]
  rfl
theorem distinctE {t : Bool} {ps : List Int} {n x : Int} (h : ps.find? (badP n) = some x) : k_distinct (t, ps) n = .er ⟨"BadPlace", [("place", eI x)]⟩ := by
  unfold k_distinct kc_distinct
  rw [checkL, h]
  rfl
/-! ### sorted places -/
theorem rng_sorted (n : Int) : (rng 0 n).Pairwise (· < ·) := by
  unfold rng
  rw [List.pairwise_map]
  refine List.Pairwise.imp ?_ List.pairwise_lt_range
  intro a b h
  omega
theorem usort_rng {n : Int} {ps : List Int} (h : ∀ p ∈ ps, 0 ≤ p ∧ p < n) : usort ps = (rng 0 n).filter fun k => decide (k ∈ ps) := by
  refine (usort_eq ((rng_sorted n).filter _) fun k => ?_).symm
  rw [List.mem_filter, decide_eq_true_eq, mem_rng]
  exact ⟨fun z => z.2, fun z => ⟨h k z, z⟩⟩
theorem mem_usort {k : Int} {ps : List Int} : k ∈ usort ps ↔ k ∈ ps := by
  unfold usort
  unfold sortI
  rw [List.mem_mergeSort, mem_nub]
/-! ### changes -/
def chV (b : BV) (qs : List Int) : List (Int × Int × Int) := (qs.filter fun k => !decide (reachV b k = sAt b.strengths k)).map fun k => (k, sAt b.strengths k, reachV b k)
theorem chLoop {δ ρ : Type} {b : BV} (g : Good b) : ∀ (qs : List Int) (acc : List (Int × Int × Int)), (∀ p ∈ qs, 0 ≤ p ∧ p < b.strengths.length) → acc.length + qs.length ≤ 900000 →
    (forM (fun (p : Int) (s : List (Int × Int × Int)) => mb (ixM b.strengths p) fun before5 => mb (k_reach_of b p) fun after6 => if (!decide (after6 = before5)) = true then mb (app s (p, before5, after6)) fun c => .ok (.nx c) else .ok (.nx s)) qs acc : M (Out (List (Int × Int × Int)) δ ρ)) = .ok (.nx (acc ++ chV b qs))
  | [], acc, _, _ => by simp [forM, chV]
  | p :: qs, acc, h, hl => by
    unfold forM
    have hp := h p List.mem_cons_self
    rw [List.length_cons] at hl
    rw [ixS hp.1 hp.2, mbk, reachK g hp.1 hp.2, mbk]
    have ih := fun acc h2 => chLoop (δ := δ) (ρ := ρ) g qs acc (fun x hx => h x (List.mem_cons_of_mem _ hx)) h2
    by_cases q : reachV b p = sAt b.strengths p
    · rw [if_neg (by simp [q])]
      simp only
      rw [ih acc (by omega)]
      unfold chV
      rw [List.filter_cons_of_neg (by simp [q])]
    · rw [if_pos (by simp [q]), appK (by omega), mbk]
      simp only
      rw [ih _ (by rw [List.length_append, List.length_singleton]; omega)]
      unfold chV
      rw [List.filter_cons_of_pos (by simp [q])]
      simp
theorem usort_len {n : Int} {ps : List Int} (h : ∀ p ∈ ps, 0 ≤ p ∧ p < n) : (usort ps).length ≤ n.toNat := by
  rw [usort_rng h]
  refine Nat.le_trans (List.length_filter_le _ _) ?_
  rw [rng_len]
  omega
theorem changesK {t : Bool} {b : BV} {ps : List Int} (g : Good b) (h : ∀ p ∈ ps, 0 ≤ p ∧ p < b.strengths.length) (hl : ps.length < 64) : k_changes_of b (t, ps) = .ok (chV b (usort ps)) := by
  unfold k_changes_of kc_changes_of
  have := g.big
  have := usort_len h
  rw [lenK g.big, mbk, distinctK h hl, mbk, chLoop g _ [] (fun p hp => h p (mem_usort.mp hp)) (by simp; omega), sqk]
  rfl
theorem changesE {t : Bool} {b : BV} {ps : List Int} {x : Int} (g : Good b) (h : ps.find? (badP b.strengths.length) = some x) : k_changes_of b (t, ps) = .er ⟨"BadPlace", [("place", eI x)]⟩ := by
  unfold k_changes_of kc_changes_of
  rw [lenK g.big, mbk, distinctE h]
  rfl
theorem repLoop {δ ρ : Type} {b : BV} : ∀ (qs acc : List Int), (∀ p ∈ qs, 0 ≤ p ∧ p < b.strengths.length) →
    (forM (fun (x : Int × Int × Int) (s : List Int) => mb (setM s x.1 x.2.2) fun a => .ok (.nx a)) (chV b qs) (wkV b acc) : M (Out (List Int) δ ρ)) = .ok (.nx (wkV b (qs.reverse ++ acc)))
  | [], acc, _ => rfl
  | p :: qs, acc, h => by
    have hp := h p List.mem_cons_self
    have ih := fun acc => repLoop (δ := δ) (ρ := ρ) (b := b) qs acc fun x hx => h x (List.mem_cons_of_mem _ hx)
    by_cases q : reachV b p = sAt b.strengths p
    · have e : chV b (p :: qs) = chV b qs := by unfold chV; rw [List.filter_cons_of_neg (by simp [q])]
      rw [e, ← wkV_same (qs := acc) hp.1 hp.2 q, ih, List.reverse_cons, List.append_assoc]
      rfl
    · have e : chV b (p :: qs) = (p, sAt b.strengths p, reachV b p) :: chV b qs := by unfold chV; rw [List.filter_cons_of_pos (by simp [q])]; rfl
      rw [e]
      unfold forM
      rw [setK hp.1 (by rw [wkV_len]; exact hp.2), mbk]
      simp only
      rw [wkV_set hp.1 hp.2, ih, List.reverse_cons, List.append_assoc]
      rfl
theorem replacedK {b : BV} {qs : List Int} (g : Good b) (h : ∀ p ∈ qs, 0 ≤ p ∧ p < b.strengths.length) : k_replaced b (chV b qs) = .ok ⟨wkV b qs, b.lengths, b.ring⟩ := by
  unfold k_replaced kc_replaced
  have := repLoop (δ := Empty) (ρ := BV) (b := b) qs [] h
  rw [wkV_nil] at this
  rw [this, sqk, wkV_congr (qs := qs) fun k _ _ => by simp, initK (good_wk g)]
  rfl
theorem wakeK {t : Bool} {b : BV} {ps : List Int} (g : Good b) (h : ∀ p ∈ ps, 0 ≤ p ∧ p < b.strengths.length) (hl : ps.length < 64) : k_wake b (t, ps) = .ok ⟨wkV b ps, b.lengths, b.ring⟩ := by
  unfold k_wake kc_wake
  rw [changesK g h hl, mbk, replacedK g fun p hp => h p (mem_usort.mp hp), mbk, wkV_congr (qs := ps) fun k _ _ => mem_usort]
  rfl
theorem wakeE {t : Bool} {b : BV} {ps : List Int} {x : Int} (g : Good b) (h : ps.find? (badP b.strengths.length) = some x) : k_wake b (t, ps) = .er ⟨"BadPlace", [("place", eI x)]⟩ := by
  unfold k_wake kc_wake
  rw [changesE g h]
  rfl
theorem reaches_wk {b : BV} : (rng 0 b.strengths.length).map (reachV b) = wkV b (rng 0 b.strengths.length) := by
  unfold wkV
  refine List.map_congr_left fun k hk => ?_
  rw [if_pos hk]
theorem wakeAllK {b : BV} (g : Good b) : k_wake_all b = .ok ⟨wkV b (rng 0 b.strengths.length), b.lengths, b.ring⟩ := by
  unfold k_wake_all kc_wake_all
  rw [reachesK g, mbk, reaches_wk, initK (good_wk g)]
  rfl
/-! ### restless, hungry -/
theorem lcK {α β : Type} {c : α → M Bool} {f : α → M β} (q : α → Bool) (g : α → β) {xs : List α} (hl : xs.length ≤ 1000000) (hc : ∀ x ∈ xs, c x = .ok (q x)) (hf : ∀ x ∈ xs, f x = .ok (g x)) : lcM c f xs = .ok ((xs.filter q).map g) := lcM_ok (lineK hl) hc fun x hx _ => hf x hx
def restV (b : BV) : List Int := (rng 0 b.strengths.length).filter fun k => !decide (reachV b k = sAt b.strengths k)
theorem lawRestK {r : Bool} {zs ss : List Int} (g : Good ⟨ss, zs, r⟩) : k__law_restless r zs ss = .ok (restV ⟨ss, zs, r⟩) := by
  unfold k__law_restless kc__law_restless
  have hz : zs.length = ss.length := g.len
  have hb : ss.length ≤ 90000 := g.big
  rw [rngK (by decide) (by decide) (by omega) (by omega), mbk, lcK (fun k => !decide (reachV ⟨ss, zs, r⟩ k = sAt ss k)) (fun k => k) (by rw [rng_len]; omega), List.map_id']
  · show M.ok (List.filter _ (rng 0 (zs.length : Int))) = _
    unfold restV
    rw [hz]
  · intro k hk
    have := mem_rng.mp hk
    rw [lawReachK hz hb this.1 (by omega), ixS this.1 (by omega)]
    rfl
  · intro k _; rfl
theorem sAt_reaches {b : BV} {k : Int} (h1 : 0 ≤ k) (h2 : k < b.strengths.length) : sAt ((rng 0 b.strengths.length).map (reachV b)) k = reachV b k := by
  rw [reaches_wk, wkV_at h1 h2, if_pos (mem_rng.mpr ⟨h1, h2⟩)]
theorem restK {b : BV} (g : Good b) : k_restless b = .ok (restV b) := by
  unfold k_restless kc_restless
  have hb := g.big
  rw [reachesK g, mbk, lenK hb, mbk, rngK (by decide) (by decide) (by omega) (by omega), mbk, lcK (fun k => !decide (reachV b k = sAt b.strengths k)) (fun k => k) (by rw [rng_len]; omega), List.map_id']
  · rfl
  · intro k hk
    have := mem_rng.mp hk
    rw [ixS this.1 (by rw [List.length_map, rng_len]; omega), ixS this.1 this.2, sAt_reaches this.1 this.2]
    rfl
  · intro k _; rfl
def hungV (b : BV) : List Int := (rng 0 b.strengths.length).filter fun k => decide (sAt b.strengths k < reachV b k)
theorem hungK {b : BV} (g : Good b) : k_hungry b = .ok (hungV b) := by
  unfold k_hungry kc_hungry
  have hb := g.big
  rw [reachesK g, mbk, lenK hb, mbk, rngK (by decide) (by decide) (by omega) (by omega), mbk, lcK (fun k => decide (sAt b.strengths k < reachV b k)) (fun k => k) (by rw [rng_len]; omega), List.map_id']
  · rfl
  · intro k hk
    have := mem_rng.mp hk
    rw [ixS this.1 (by rw [List.length_map, rng_len]; omega), ixS this.1 this.2, sAt_reaches this.1 this.2]
    rfl
  · intro k _; rfl
theorem hung_rest {b : BV} : (restV b).filter (fun k => decide (sAt b.strengths k < reachV b k)) = hungV b := by
  unfold restV hungV
  rw [List.filter_filter]
  refine List.filter_congr fun k _ => ?_
  by_cases h : sAt b.strengths k < reachV b k
  · simp [h]; omega
  · simp [h]
theorem atRestK {b : BV} (g : Good b) : k_at_rest b = .ok (decide (restV b = [])) := by
  unfold k_at_rest kc_at_rest
  rw [restK g]
  simp only [mbk]
  show M.ok (decide (((restV b).length : Int) = 0)) = _
  congr 1
  cases restV b with
  | nil => rfl
  | cons x l => simp; omega
theorem rest_len {b : BV} : (restV b).length ≤ b.strengths.length := by
  unfold restV
  refine Nat.le_trans (List.length_filter_le _ _) ?_
  rw [rng_len]; omega
/-! ### a list or a tuple -/
theorem numbersQK {t : Bool} {xs ys : List Int} (hl : ys.length ≤ 90000) : k__law_numbersQ (t, xs) ys t = .ok (decide (xs = ys)) := by
  unfold k__law_numbersQ kc__law_numbersQ
  rw [if_neg (by cases t <;> simp)]
  by_cases h : xs.length = ys.length
  · rw [if_neg (by simp [h]), rngK (by decide) (by decide) (by omega) (by omega), mbk, numLoop h]
    by_cases e : xs = ys
    · rw [if_pos e, sqk]; simp [e]
    · rw [if_neg e]; simp [e]
  · have : xs ≠ ys := fun e => h (by rw [e])
    have h' : ¬ ((xs.length : Int) = (ys.length : Int)) := by omega
    rw [if_pos (by simp [h'])]
    simp [this]
theorem handedK {t : Bool} {ps : List Int} : k__law_handed ps t = .ok (t, ps) := by
  unfold k__law_handed kc__law_handed
  cases t <;> rfl
theorem isChK {xs : List (Int × Int × Int)} (hl : xs.length ≤ 90000) : k__law_is_changes xs xs = .ok true := by
  unfold k__law_is_changes kc__law_is_changes
  rw [if_neg (by simp), rngK (by decide) (by decide) (by omega) (by omega), mbk, forM_pass, sqk]
  · rfl
  · intro k hk
    have := mem_rng.mp hk
    obtain ⟨x, e1, e2⟩ := ixK (xs := xs) this.1 this.2
    rw [e2]
    simp only [mbk]
    rw [numbersTK true (by simp)]
    simp [mbk]
theorem cutN {α : Type} (xs : List α) (n : Nat) : cut xs (some (n : Int)) none = xs.drop n := by
  unfold cut
  rw [HT.sIx_nat xs.length 0 n, HT.sIx_none]
  by_cases h : n ≤ xs.length
  · rw [Nat.min_eq_left h, List.take_of_length_le (by rw [List.length_drop]; exact Nat.le_refl _)]
  · rw [Nat.min_eq_right (by omega), List.drop_of_length_le (by omega), List.drop_of_length_le (by omega), List.take_nil]
end DL

namespace DL
open PySem L2
/-! ## trains by steps, lords, leaders -/
def kc_lord_of (beads : BV) (place : Int) : M (Out Unit Empty (Option Int)) := mb (rngL 0 place) fun before1 =>
    sq (if beads.ring = true then mb (mb (mb (mb (k_Beads___len__ beads) lenO) fun v2 => rngL (place + 1) v2) fun v3 => catM v3 before1) fun before4 =>
    .ok (.nx before4) else .ok (.nx before1)) fun (j5 : List Int) =>
    sq (forM (fun (at6 : Int) (s7 : Unit) =>
    mb (mb (ixM beads.strengths at6) fun v8 => mb (ixM beads.strengths place) fun v9 => (.ok (decide (v9 < v8)))) fun v10 => if v10 = true then .ok (.rt (some at6))
    else .ok (.nx ())) j5.reverse ()) fun s11 =>
    .ok (.rt (none : Option Int))
def k_lord_of (beads : BV) (place : Int) : M (Option Int) := fnV (.ok none) (kc_lord_of beads place)
def kc_lords_of (beads : BV) : M (Out Unit Empty (List (Option Int))) := mb (mb (mb (mb (k_Beads___len__ beads) lenO) fun v1 => rngM 0 v1) fun v2 => mapC (fun place3 => k_lord_of beads place3) v2) fun v4 => .ok (.rt v4)
def k_lords_of (beads : BV) : M (List (Option Int)) := fnV .no (kc_lords_of beads)
def kc_leaders_of (beads : BV) : M (Out Unit Empty (List Int)) := mb (k_lords_of beads) fun lords1 =>
    mb (mb (mb (mb (k_Beads___len__ beads) lenO) fun v2 => rngM 0 v2) fun v3 => lcM (fun place4 => mb (ixM lords1 place4) fun v5 => (.ok v5.isNone)) (fun place4 => (.ok place4)) v3) fun v6 => .ok (.rt v6)
def k_leaders_of (beads : BV) : M (List Int) := fnV .no (kc_leaders_of beads)
def kc__law_train (round_flag : Bool) (strengths : (List Int)) (place : Int) : M (Out Unit Empty (List Int)) := mb (rngM 1 (strengths.length : Int)) fun v1 => sq (forM (fun (step2 : Int) (s3 : List Int) =>
    sq (if (decide ((strengths.length : Int) ≤ (place + step2))) = true then if (!round_flag) = true then .ok (.bk s3)
    else .ok (.nx ((place + step2) - (strengths.length : Int))) else .ok (.nx (place + step2))) fun (j4 : Int) =>
    mb (mb (ixM strengths j4) fun v5 => mb (ixM strengths place) fun v6 => (.ok (decide (v6 ≤ v5)))) fun v7 => if v7 = true then .ok (.bk s3)
    else mb (app s3 j4) fun train8 =>
    .ok (.nx train8)) v1 ([] : List Int)) fun s9 =>
    .ok (.rt s9)
def k__law_train (round_flag : Bool) (strengths : (List Int)) (place : Int) : M (List Int) := fnV .no (kc__law_train round_flag strengths place)
def kc__law_are_lords (told : (List (Option Int))) (due : (List (Option Int))) : M (Out Unit Empty Bool) := if ((!true) || (!decide ((told.length : Int) = (due.length : Int)))) = true then .ok (.rt false)
    else mb (rngM 0 (due.length : Int)) fun v1 => sq (forM (fun (place2 : Int) (s3 : Unit) =>
    mb (mb (ixM due place2) fun v4 => (.ok v4.isNone)) fun v5 => if v5 = true then mb (mb (ixM told place2) fun v6 => (.ok v6.isSome)) fun v7 => if v7 = true then .ok (.rt false)
    else .ok (.nx ())
    else mb (mb (mb (mb (ixM told place2) fun v8 => k__law_is_integer_v1 v8) fun v9 => (.ok (!v9))) fun v10 => if v10 = true then .ok true else mb (ixM told place2) fun v11 => mb (ixM due place2) fun v12 => (.ok (!decide (v11 = v12)))) fun v13 => if v13 = true then .ok (.rt false)
    else .ok (.nx ())) v1 ()) fun s14 =>
    .ok (.rt true)
def k__law_are_lords (told : (List (Option Int))) (due : (List (Option Int))) : M Bool := fnV .no (kc__law_are_lords told due)

theorem rng_cons {lo hi : Int} (h : lo < hi) : rng lo hi = lo :: rng (lo + 1) hi := by
  rw [rng_app (lo := lo) (mid := lo + 1) (hi := hi) (by omega) (by omega)]
  have e : rng lo (lo + 1) = [lo] := by
    unfold rng
    rw [show (lo + 1 - lo).toNat = 1 by omega]
    simp
  rw [e]
  rfl
theorem mem_tw {q : Int → Bool} : ∀ (n : Nat) {lo hi x : Int}, (hi - lo).toNat = n → (x ∈ (rng lo hi).takeWhile q ↔ lo ≤ x ∧ x < hi ∧ ∀ y, lo ≤ y → y ≤ x → q y = true) := by
  intro n
  induction n with
  | zero =>
    intro lo hi x h
    rw [rng_nil (by omega)]
    simp
    omega
  | succ n ih =>
    intro lo hi x h
    rw [rng_cons (by omega)]
    by_cases c : q lo = true
    · rw [List.takeWhile_cons_of_pos c, List.mem_cons, ih (lo := lo + 1) (by omega)]
      constructor
      · rintro (rfl | ⟨h1, h2, h3⟩)
        · exact ⟨Int.le_refl _, by omega, fun y h4 h5 => by
            have : y = x := by omega
            rw [this]; exact c⟩
        · refine ⟨by omega, h2, fun y h4 h5 => ?_⟩
          by_cases e : y = lo
          · rw [e]; exact c
          · exact h3 y (by omega) h5
      · rintro ⟨h1, h2, h3⟩
        by_cases e : x = lo
        · exact .inl e
        · exact .inr ⟨by omega, h2, fun y h4 h5 => h3 y (by omega) h5⟩
    · rw [List.takeWhile_cons_of_neg c]
      constructor
      · intro z; cases z
      · rintro ⟨h1, h2, h3⟩
        exact absurd (h3 lo (Int.le_refl _) h1) c
/-- d steps on -/
def onV (n p d : Int) : Int := if n ≤ p + d then p + d - n else p + d
def stepsV (ring : Bool) (n p : Int) : Int := if ring = true then n else n - p
theorem runs_steps {ring : Bool} {n p : Int} (h0 : 0 ≤ p) (h1 : p < n) : runsV ring n p = (rng 1 (stepsV ring n p)).map (onV n p) := by
  unfold runsV stepsV
  cases ring with
  | true =>
    rw [if_pos rfl, if_pos rfl]
    exact (map_at h0 h1).symm
  | false =>
    rw [if_neg (by decide), if_neg (by decide), List.append_nil, show rng (p + 1) n = rng (1 + p) (n - p + p) by congr 1 <;> omega, ← rng_map]
    refine List.map_congr_left fun x hx => ?_
    have := mem_rng.mp hx
    unfold onV
    rw [if_neg (by omega)]
    omega
theorem mem_train {ring : Bool} {ss : List Int} {p x : Int} (h0 : 0 ≤ p) (h1 : p < ss.length) : x ∈ trainV ring ss p ↔ ∃ d, 1 ≤ d ∧ d < stepsV ring ss.length p ∧ x = onV ss.length p d ∧ ∀ e, 1 ≤ e → e ≤ d → sAt ss (onV ss.length p e) < sAt ss p := by
  unfold trainV
  rw [runs_steps h0 h1, tw_map, List.mem_map]
  constructor
  · rintro ⟨d, hd, rfl⟩
    obtain ⟨h2, h3, h4⟩ := (mem_tw _ rfl).mp hd
    exact ⟨d, h2, h3, rfl, fun e h5 h6 => by
      have := h4 e h5 h6
      simp only [Bool.not_eq_true', decide_eq_false_iff_not] at this
      omega⟩
  · rintro ⟨d, h2, h3, rfl, h4⟩
    exact ⟨d, (mem_tw _ rfl).mpr ⟨h2, h3, fun y h5 h6 => by
      have := h4 y h5 h6
      simp only [Bool.not_eq_true', decide_eq_false_iff_not]
      omega⟩, rfl⟩
/-- the retinues nest -/
theorem nest_in {ring : Bool} {ss : List Int} {p q x : Int} (hp : 0 ≤ p ∧ p < ss.length) (hq : 0 ≤ q ∧ q < ss.length) (h : q ∈ trainV ring ss p) (hx : x ∈ trainV ring ss q ∨ x = q) : x ∈ trainV ring ss p := by
  rcases hx with hx | hx
  · obtain ⟨d, d1, d2, d3, d4⟩ := (mem_train hp.1 hp.2).mp h
    obtain ⟨e, e1, e2, e3, e4⟩ := (mem_train hq.1 hq.2).mp hx
    have lt := d4 d d1 (Int.le_refl _)
    rw [← d3] at lt
    unfold stepsV at d2 e2
    by_cases w : d + e < (ss.length : Int) ∧ (ring = true ∨ p + d + e < ss.length)
    · refine (mem_train hp.1 hp.2).mpr ⟨d + e, by omega, ?_, ?_, fun f f1 f2 => ?_⟩
      · unfold stepsV
        cases ring <;> simp at * <;> omega
      · rw [e3, d3]
        unfold onV
        split <;> split <;> (try split) <;> omega
      · by_cases c : f ≤ d
        · exact d4 f f1 c
        · have := e4 (f - d) (by omega) (by omega)
          have eq : onV ss.length q (f - d) = onV ss.length p f := by
            rw [d3]
            unfold onV
            split <;> split <;> (try split) <;> omega
          rw [eq] at this
          omega
    · exfalso
      cases ring with
      | true =>
        simp only [if_true, true_or, and_true] at d2 e2 w
        have := e4 (ss.length - d) (by omega) (by omega)
        have eq : onV ss.length q (ss.length - d) = p := by
          rw [d3]
          unfold onV
          split <;> split <;> omega
        rw [eq] at this
        omega
      | false =>
        simp only [Bool.false_eq_true, if_false, false_or] at d2 e2 w
        have : q = p + d := by
          rw [d3]
          unfold onV
          rw [if_neg (by omega)]
        omega
  · rw [hx]; exact h
theorem nest_apart {ring : Bool} {ss : List Int} {p q x : Int} (hp : 0 ≤ p ∧ p < ss.length) (hq : 0 ≤ q ∧ q < ss.length) (ne : p ≠ q) (h1 : q ∉ trainV ring ss p) (h2 : p ∉ trainV ring ss q) (hx : x ∈ trainV ring ss p ∨ x = p) (hy : x ∈ trainV ring ss q ∨ x = q) : False := by
  rcases hx with hx | rfl
  · rcases hy with hy | rfl
    · obtain ⟨a, a1, a2, a3, a4⟩ := (mem_train hp.1 hp.2).mp hx
      obtain ⟨b, b1, b2, b3, b4⟩ := (mem_train hq.1 hq.2).mp hy
      have key1 : ∀ d, 1 ≤ d → d ≤ a → q = onV ss.length p d → False := fun d d1 d2 d3 => h1 ((mem_train hp.1 hp.2).mpr ⟨d, d1, by omega, d3, fun e e1 e2 => a4 e e1 (by omega)⟩)
      have key2 : ∀ d, 1 ≤ d → d ≤ b → p = onV ss.length q d → False := fun d d1 d2 d3 => h2 ((mem_train hq.1 hq.2).mpr ⟨d, d1, by omega, d3, fun e e1 e2 => b4 e e1 (by omega)⟩)
      rw [a3] at b3
      unfold stepsV at a2 b2
      cases ring with
      | true =>
        simp only [if_true] at a2 b2
        unfold onV at b3
        by_cases c : b < a
        · refine key1 (a - b) (by omega) (by omega) ?_
          unfold onV
          split at b3 <;> split at b3 <;> split <;> omega
        · refine key2 (b - a) ?_ (by omega) ?_
          · split at b3 <;> split at b3 <;> omega
          · unfold onV
            split at b3 <;> split at b3 <;> split <;> omega
      | false =>
        simp only [Bool.false_eq_true, if_false] at a2 b2
        unfold onV at b3
        rw [if_neg (by omega), if_neg (by omega)] at b3
        by_cases c : b < a
        · refine key1 (a - b) (by omega) (by omega) ?_
          unfold onV
          rw [if_neg (by omega)]
          omega
        · refine key2 (b - a) (by omega) (by omega) ?_
          unfold onV
          rw [if_neg (by omega)]
          omega
    · exact h1 hx
  · rcases hy with hy | hy
    · exact h2 hy
    · exact ne hy

theorem lawTrainK {r : Bool} {ss : List Int} {p : Int} (hb : ss.length ≤ 90000) (h1 : 0 ≤ p) (h2 : p < ss.length) : k__law_train r ss p = .ok (trainV r ss p) := by
  unfold k__law_train kc__law_train
  have rl := runs_len (ring := r) h1 h2
  rw [rngK (by decide) (by decide) (by omega) (by omega), mbk]
  rw [stepsK (fun (j : Int) (s : List Int) => mb (mb (ixM ss j) fun v5 => mb (ixM ss p) fun v6 => (.ok (decide (v6 ≤ v5)))) fun v7 => if v7 = true then .ok (.bk s) else mb (app s j) fun t => .ok (.nx t)) _ h1 h2]
  rw [trainLoop ⟨h1, h2⟩ (fun x hx => runs_mem h1 h2 hx) (by omega), sqk]
  rfl
/-! ### steps back -/
def bkV (n p d : Int) : Int := if p - d < 0 then p - d + n else p - d
def backN (ring : Bool) (n p : Int) : Int := if ring = true then n else p + 1
def backV (ring : Bool) (n p : Int) : List Int := (rng 1 (backN ring n p)).map (bkV n p)
theorem rev_rng {lo hi : Int} : (rng lo hi).reverse = (rng 1 (hi - lo + 1)).map fun d => hi - d := by
  apply List.ext_getElem?
  intro i
  by_cases h : i < (hi - lo).toNat
  · rw [List.getElem?_reverse (by rw [rng_len]; exact h), rng_len, rng_get (by omega), List.getElem?_map, rng_get (by omega)]
    simp only [Option.map_some]
    congr 1
    omega
  · rw [List.getElem?_eq_none (by rw [List.length_reverse, rng_len]; omega), List.getElem?_eq_none (by rw [List.length_map, rng_len]; omega)]
theorem back_rev {ring : Bool} {n p : Int} (h0 : 0 ≤ p) (h1 : p < n) : (if ring = true then rng (p + 1) n ++ rng 0 p else rng 0 p).reverse = backV ring n p := by
  unfold backV backN
  cases ring with
  | true =>
    rw [if_pos rfl, if_pos rfl, List.reverse_append, rev_rng, rev_rng, rng_app (lo := 1) (mid := p + 1) (hi := n) (by omega) (by omega), List.map_append]
    congr 1
    · rw [show p - 0 + 1 = p + 1 by omega]
      refine List.map_congr_left fun x hx => ?_
      have := mem_rng.mp hx
      unfold bkV
      rw [if_neg (by omega)]
    · rw [show rng (p + 1) n = rng (1 + p) (n - p + p) by congr 1 <;> omega, ← rng_map, List.map_map, show n - (p + 1) + 1 = n - p by omega]
      refine List.map_congr_left fun x hx => ?_
      have := mem_rng.mp hx
      show _ = bkV n p (x + p)
      unfold bkV
      rw [if_pos (by omega)]
      omega
  | false =>
    rw [if_neg (by decide), if_neg (by decide), rev_rng, show p - 0 + 1 = p + 1 by omega]
    refine List.map_congr_left fun x hx => ?_
    have := mem_rng.mp hx
    unfold bkV
    rw [if_neg (by omega)]
theorem back_mem {ring : Bool} {n p x : Int} (h0 : 0 ≤ p) (h1 : p < n) (h : x ∈ backV ring n p) : 0 ≤ x ∧ x < n := by
  unfold backV at h
  obtain ⟨d, hd, rfl⟩ := List.mem_map.mp h
  have := mem_rng.mp hd
  unfold backN at this
  unfold bkV
  split at this <;> split <;> omega
def lordV (ring : Bool) (ss : List Int) (p : Int) : Option Int := (backV ring ss.length p).find? fun x => decide (sAt ss p < sAt ss x)
theorem lordK {b : BV} {p : Int} (h : b.strengths.length ≤ 90000) (h1 : 0 ≤ p) (h2 : p < b.strengths.length) : k_lord_of b p = .ok (lordV b.ring b.strengths p) := by
  unfold k_lord_of kc_lord_of
  rw [rngLK (by omega) (by omega) (by omega) (by omega), mbk, lenK h, mbk, rngLK (by omega) (by omega) (by omega) (by omega), mbk, catK (by rw [rng_len, rng_len]; omega), mbk]
  have e : (if b.ring = true then .ok (.nx (rng (p + 1) b.strengths.length ++ rng 0 p)) else .ok (.nx (rng 0 p)) : M (Out (List Int) Empty (Option Int))) = .ok (.nx (if b.ring = true then rng (p + 1) b.strengths.length ++ rng 0 p else rng 0 p)) := by
    split <;> rfl
  rw [e, sqk, back_rev h1 h2, forM_ret (fun x => decide (sAt b.strengths p < sAt b.strengths x)) some]
  · unfold lordV
    cases (backV b.ring b.strengths.length p).find? fun x => decide (sAt b.strengths p < sAt b.strengths x) with
    | none => rfl
    | some x => rfl
  · intro x hx
    have := back_mem h1 h2 hx
    rw [ixS this.1 this.2, ixS h1 h2]
    simp only [mbk]
theorem lordsK {b : BV} (g : Good b) : k_lords_of b = .ok ((rng 0 b.strengths.length).map (lordV b.ring b.strengths)) := by
  unfold k_lords_of kc_lords_of
  have := g.big
  rw [lenK g.big, mbk, rngK (by decide) (by decide) (by omega) (by omega), mbk, mapC_ok (g := lordV b.ring b.strengths) (lineK (by rw [rng_len]; omega)) fun x hx => lordK g.big (mem_rng.mp hx).1 (mem_rng.mp hx).2, mbk]
  rfl
theorem ixMapR {α : Type} {f : Int → α} {n k : Int} (h1 : 0 ≤ k) (h2 : k < n) : ixM ((rng 0 n).map f) k = .ok (f k) := by
  refine ixE h1 ?_
  rw [List.getElem?_map, rng_get (by omega)]
  simp only [Option.map_some]
  rw [show (0 : Int) + (k.toNat : Int) = k by omega]
def leadV (ring : Bool) (ss : List Int) : List Int := (rng 0 ss.length).filter fun k => (lordV ring ss k).isNone
theorem leadersK {b : BV} (g : Good b) : k_leaders_of b = .ok (leadV b.ring b.strengths) := by
  unfold k_leaders_of kc_leaders_of
  have hb := g.big
  rw [lordsK g, mbk, lenK hb, mbk, rngK (by decide) (by decide) (by omega) (by omega), mbk, lcK (fun k => (lordV b.ring b.strengths k).isNone) (fun k => k) (by rw [rng_len]; omega), List.map_id']
  · rfl
  · intro k hk
    have := mem_rng.mp hk
    rw [ixMapR this.1 this.2]
    rfl
  · intro k _; rfl
/-! ### the nearest whose train holds p -/
theorem find_same {α : Type} {P Q : α → Bool} : ∀ (l : List α), (∀ x ∈ l, Q x = true → P x = true) → (∀ (i : Nat) (x : α), l[i]? = some x → P x = true → (∀ (k : Nat) (y : α), k < i → l[k]? = some y → P y = false) → Q x = true) → l.find? Q = l.find? P
  | [], _, _ => rfl
  | x :: l, h1, h2 => by
    by_cases c : P x = true
    · have q : Q x = true := h2 0 x rfl c fun k y hk _ => absurd hk (Nat.not_lt_zero _)
      rw [List.find?_cons_of_pos q, List.find?_cons_of_pos c]
    · have q : ¬ Q x = true := fun z => c (h1 x List.mem_cons_self z)
      rw [List.find?_cons_of_neg q, List.find?_cons_of_neg c]
      refine find_same l (fun y hy => h1 y (List.mem_cons_of_mem _ hy)) fun i y hy hp hk => h2 (i + 1) y (by simpa using hy) hp fun k z hkk hz => ?_
      cases k with
      | zero =>
        simp at hz
        subst hz
        simpa using c
      | succ k => exact hk k z (by omega) (by simpa using hz)
theorem lord_train {ring : Bool} {ss : List Int} {p : Int} (h1 : 0 ≤ p) (h2 : p < ss.length) : (backV ring ss.length p).find? (fun x => decide (p ∈ trainV ring ss x)) = lordV ring ss p := by
  unfold lordV
  refine find_same _ (fun x hx hq => ?_) fun i x hx hp hk => ?_
  · have hx2 := back_mem h1 h2 hx
    rw [decide_eq_true_eq] at hq ⊢
    obtain ⟨d, d1, _, d3, d4⟩ := (mem_train hx2.1 hx2.2).mp hq
    have := d4 d d1 (Int.le_refl _)
    rwa [← d3] at this
  · rw [decide_eq_true_eq] at hp ⊢
    unfold backV at hx hk
    have hl := (List.getElem?_eq_some_iff.mp hx).1
    rw [List.length_map, rng_len] at hl
    have at_ : ∀ k : Nat, k ≤ i → ((rng 1 (backN ring ss.length p)).map (bkV ss.length p))[k]? = some (bkV ss.length p (1 + k)) := fun k hk => by
      rw [List.getElem?_map, rng_get (by omega)]
      rfl
    rw [at_ i (Nat.le_refl _)] at hx
    have hx' := Option.some.inj hx
    have hb : backN ring ss.length p = if ring = true then (ss.length : Int) else p + 1 := rfl
    have x0 : 0 ≤ x ∧ x < ss.length ∧ onV ss.length x (1 + i) = p ∧ (1 + i : Int) < stepsV ring ss.length x := by
      rw [hb] at hl
      rw [← hx']
      unfold onV bkV stepsV
      cases ring with
      | true =>
        simp only [if_true] at hl ⊢
        split <;> split <;> omega
      | false =>
        simp only [Bool.false_eq_true, if_false] at hl ⊢
        split <;> split <;> omega
    refine (mem_train x0.1 x0.2.1).mpr ⟨1 + i, by omega, x0.2.2.2, x0.2.2.1.symm, fun e e1 e2 => ?_⟩
    by_cases c : e = 1 + i
    · rw [c, x0.2.2.1]
      exact hp
    · have lt : (i - e.toNat) < i := by omega
      have := hk (i - e.toNat) _ lt (at_ _ (by omega))
      rw [decide_eq_false_iff_not] at this
      have eq : bkV ss.length p (1 + ((i - e.toNat : Nat) : Int)) = onV ss.length x e := by
        rw [← hx']
        rw [hb] at hl
        unfold onV bkV
        cases ring with
        | true =>
          simp only [if_true] at hl
          split <;> split <;> (try split) <;> omega
        | false =>
          simp only [Bool.false_eq_true, if_false] at hl
          split <;> split <;> (try split) <;> omega
      rw [eq] at this
      omega
theorem lord_some {ring : Bool} {ss : List Int} {p j : Int} (h1 : 0 ≤ p) (h2 : p < ss.length) (h : lordV ring ss p = some j) : (0 ≤ j ∧ j < ss.length) ∧ sAt ss p < sAt ss j := by
  unfold lordV at h
  have a := List.mem_of_find?_eq_some h
  have b := List.find?_some h
  exact ⟨back_mem h1 h2 a, of_decide_eq_true b⟩
/-- a ring's leaders are its strongest -/
theorem lord_none {ss : List Int} {p : Int} (h1 : 0 ≤ p) (h2 : p < ss.length) : lordV true ss p = none ↔ ∀ k, 0 ≤ k → k < (ss.length : Int) → sAt ss k ≤ sAt ss p := by
  unfold lordV
  rw [List.find?_eq_none]
  constructor
  · intro h k k1 k2
    by_cases c : k = p
    · rw [c]; exact Int.le_refl _
    · have hm : k ∈ backV true ss.length p := by
        unfold backV backN
        rw [if_pos rfl, List.mem_map]
        by_cases d : k < p
        · refine ⟨p - k, mem_rng.mpr (by omega), ?_⟩
          unfold bkV
          rw [if_neg (by omega)]
          omega
        · refine ⟨p - k + ss.length, mem_rng.mpr (by omega), ?_⟩
          unfold bkV
          rw [if_pos (by omega)]
          omega
      have := h k hm
      simp only [decide_eq_true_eq] at this
      omega
  · intro h x hx
    have := back_mem h1 h2 hx
    have := h x this.1 this.2
    simp only [decide_eq_true_eq]
    omega
theorem areLordsK {xs : List (Option Int)} (hl : xs.length ≤ 90000) : k__law_are_lords xs xs = .ok true := by
  unfold k__law_are_lords kc__law_are_lords
  rw [if_neg (by simp), rngK (by decide) (by decide) (by omega) (by omega), mbk, forM_pass, sqk]
  · rfl
  · intro k hk
    have := mem_rng.mp hk
    obtain ⟨x, e1, e2⟩ := ixK (xs := xs) this.1 this.2
    rw [e2]
    simp only [mbk, isintOK]
    cases x with
    | none => simp [mbk]
    | some z => simp [mbk]
end DL

namespace DL
open PySem L2
/-! ## tallies -/
def kc_counted (strengths : (List Int)) (told : (List Int)) : M (Out Unit Empty (List (Int × Int))) := sq (forM (fun (x1 : (Int × Int)) (s2 : List (Int × Int)) =>
    (fun j3 : Int =>
    mb (putM s2 x1.1 (((getA s2 x1.1).getD 0) + j3)) fun numbers4 =>
    .ok (.nx numbers4)) (if (decide (x1.1 < x1.2)) = true then (-1) else 1)) (List.zip strengths told) ([] : List (Int × Int))) fun s5 =>
    mb (lcM (fun value6 => mb (getM s5 value6) fun v7 => (.ok (!decide (v7 = 0)))) (fun value6 => mb (getM s5 value6) fun v8 => (.ok (value6, v8))) (sortI (List.map (fun kv => kv.1) s5))) fun v9 => .ok (.rt v9)
def k_counted (strengths : (List Int)) (told : (List Int)) : M (List (Int × Int)) := fnV .no (kc_counted strengths told)
def kc_tally_of (beads : BV) : M (Out Unit Empty (List (Int × Int))) := mb (mb (k_reaches beads) fun v1 => k_counted beads.strengths v1) fun v2 => .ok (.rt v2)
def k_tally_of (beads : BV) : M (List (Int × Int)) := fnV .no (kc_tally_of beads)
def kc_compare_tallies (one : (List (Int × Int))) (other : (List (Int × Int))) : M (Out Unit Empty Int) := mb (mb (catM (List.map (fun kv => kv.1) (mergeA one)) (List.map (fun kv => kv.1) (mergeA other))) fun v1 => sortSetB v1) fun v2 => sq (forM (fun (value3 : Int) (s4 : Unit) =>
    let difference5 := ((getA (mergeA one) value3).getD 0) - ((getA (mergeA other) value3).getD 0)
    if (decide (difference5 < 0)) = true then .ok (.rt (-1))
    else if (decide (0 < difference5)) = true then .ok (.rt 1)
    else .ok (.nx ())) v2 ()) fun s6 =>
    .ok (.rt 0)
def k_compare_tallies (one : (List (Int × Int))) (other : (List (Int × Int))) : M Int := fnV .no (kc_compare_tallies one other)
def kc__law_tally (round_flag : Bool) (sizes : (List Int)) (strengths : (List Int)) : M (Out Unit Empty (List (Int × Int))) := mb (sortSet strengths) fun v1 => sq (forM (fun (value2 : Int) (s3 : List (Int × Int)) =>
    mb (rngM 0 (sizes.length : Int)) fun v4 => sq (forM (fun (k5 : Int) (s6 : Int) =>
    mb (mb (ixM strengths k5) fun v7 => (.ok (decide (v7 = value2)))) fun v8 => if v8 = true then mb (mb (k__law_reach round_flag sizes strengths k5) fun v9 => (.ok (decide (value2 < v9)))) fun v10 => if v10 = true then .ok (.nx (s6 - 1))
    else .ok (.nx (s6 + 1))
    else .ok (.nx s6)) v4 0) fun s11 =>
    if (!decide (s11 = 0)) = true then mb (app s3 (value2, s11)) fun tally12 =>
    .ok (.nx tally12)
    else .ok (.nx s3)) v1 ([] : List (Int × Int))) fun s13 =>
    .ok (.rt s13)
def k__law_tally (round_flag : Bool) (sizes : (List Int)) (strengths : (List Int)) : M (List (Int × Int)) := fnV .no (kc__law_tally round_flag sizes strengths)
def kc__law_at (tally : (List (Int × Int))) (value : Int) : M (Out Unit Empty Int) := sq (forM (fun (pair1 : (Int × Int)) (s2 : Unit) =>
    if (decide (pair1.1 = value)) = true then .ok (.rt pair1.2)
    else .ok (.nx ())) tally ()) fun s3 =>
    .ok (.rt 0)
def k__law_at (tally : (List (Int × Int))) (value : Int) : M Int := fnV .no (kc__law_at tally value)
section
variable {α β γ δ ρ : Type}
theorem forM_all {f : α → γ → M (Out γ γ ρ)} (g : γ → α → γ) (P : γ → Prop) : ∀ {xs : List α} {s0 : γ}, P s0 → (∀ x ∈ xs, ∀ s, P s → f x s = .ok (.nx (g s x)) ∧ P (g s x)) → (forM f xs s0 : M (Out γ δ ρ)) = .ok (.nx (xs.foldl g s0)) ∧ P (xs.foldl g s0)
  | [], s0, h, _ => ⟨rfl, h⟩
  | x :: xs, s0, h, hs => by
    obtain ⟨e, p⟩ := hs x List.mem_cons_self s0 h
    unfold forM
    rw [e]
    exact forM_all g P p fun y hy => hs y (List.mem_cons_of_mem _ hy)
end
/-- a mark against its reach: down or up -/
def sgn (v r : Int) : Int := if v < r then -1 else 1
/-- what is counted at v -/
def numAt (zs : List (Int × Int)) (v : Int) : Int := (zs.map fun x => if x.1 = v then sgn x.1 x.2 else 0).sum
theorem getA_app {kvs : List (Int × Int)} {k z j : Int} (h : ∀ kv ∈ kvs, kv.1 ≠ k) : getA (kvs ++ [(k, z)]) j = if j = k then some z else getA kvs j := by
  unfold getA
  rw [List.find?_append]
  by_cases e : j = k
  · subst e
    rw [if_pos rfl, show kvs.find? (fun kv => decide (kv.1 = j)) = none from List.find?_eq_none.mpr fun kv hk => by simp [h kv hk]]
    simp
  · rw [if_neg e]
    cases q : kvs.find? (fun kv => decide (kv.1 = j)) with
    | some x => simp
    | none => simp [Ne.symm e]
theorem getA_map {k z j : Int} : ∀ {kvs : List (Int × Int)}, (∃ kv ∈ kvs, kv.1 = k) → getA (kvs.map fun kv => if kv.1 = k then (kv.1, z) else kv) j = if j = k then some z else getA kvs j
  | [], h => by obtain ⟨_, h, _⟩ := h; cases h
  | p :: kvs, h => by
    have ih := @getA_map k z j kvs
    unfold getA at *
    rw [List.map_cons, List.find?_cons, List.find?_cons]
    by_cases e : p.1 = k
    · rw [if_pos e]
      by_cases f : j = k
      · have : p.1 = j := by omega
        simp [this, f]
      · have : p.1 ≠ j := by omega
        simp only [this, decide_false]
        rw [if_neg f]
        by_cases hh : ∃ kv ∈ kvs, kv.1 = k
        · rw [ih hh, if_neg f]
        · rw [show (kvs.map fun kv => if kv.1 = k then (kv.1, z) else kv) = kvs from by
            conv => rhs; rw [← List.map_id kvs]
            exact List.map_congr_left fun kv hk => if_neg fun q => hh ⟨kv, hk, q⟩]
    · rw [if_neg e]
      obtain ⟨kv, h1, h2⟩ := h
      have hh : ∃ kv ∈ kvs, kv.1 = k := by
        rcases List.mem_cons.mp h1 with rfl | h1
        · exact absurd h2 e
        · exact ⟨kv, h1, h2⟩
      by_cases f : p.1 = j
      · have : j ≠ k := by omega
        simp [f, this]
      · simp only [f, decide_false]
        exact ih hh
theorem putA_in {kvs : List (Int × Int)} {k z : Int} (h : ∃ kv ∈ kvs, kv.1 = k) : putA kvs k z = kvs.map fun kv => if kv.1 = k then (kv.1, z) else kv := by
  unfold putA
  rw [if_pos]
  obtain ⟨kv, h1, h2⟩ := h
  exact List.any_eq_true.mpr ⟨kv, h1, decide_eq_true h2⟩
theorem putA_out {kvs : List (Int × Int)} {k z : Int} (h : ∀ kv ∈ kvs, kv.1 ≠ k) : putA kvs k z = kvs ++ [(k, z)] := by
  unfold putA
  rw [if_neg]
  intro q
  obtain ⟨kv, h1, h2⟩ := List.any_eq_true.mp q
  exact h kv h1 (of_decide_eq_true h2)
theorem get_put {kvs : List (Int × Int)} {k z j : Int} : getA (putA kvs k z) j = if j = k then some z else getA kvs j := by
  by_cases h : ∃ kv ∈ kvs, kv.1 = k
  · rw [putA_in h, getA_map h]
  · have h' : ∀ kv ∈ kvs, kv.1 ≠ k := fun kv hk q => h ⟨kv, hk, q⟩
    rw [putA_out h', getA_app h']
theorem keys_put {kvs : List (Int × Int)} {k z : Int} : (putA kvs k z).map (·.1) = if k ∈ kvs.map (·.1) then kvs.map (·.1) else kvs.map (·.1) ++ [k] := by
  by_cases h : ∃ kv ∈ kvs, kv.1 = k
  · rw [putA_in h, if_pos (by obtain ⟨kv, h1, h2⟩ := h; exact List.mem_map.mpr ⟨kv, h1, h2⟩), List.map_map]
    refine List.map_congr_left fun kv _ => ?_
    simp only [Function.comp]
    split <;> rfl
  · have h' : ∀ kv ∈ kvs, kv.1 ≠ k := fun kv hk q => h ⟨kv, hk, q⟩
    rw [putA_out h', if_neg (by
      intro q
      obtain ⟨kv, h1, h2⟩ := List.mem_map.mp q
      exact h' kv h1 h2), List.map_append]
    rfl
/-- the numbers so far -/
structure NumS (zs kvs : List (Int × Int)) : Prop where
  nd : (kvs.map (·.1)).Nodup
  mem : ∀ k, k ∈ kvs.map (·.1) ↔ k ∈ zs.map (·.1)
  get : ∀ k, getA kvs k = if k ∈ zs.map (·.1) then some (numAt zs k) else none
  len : kvs.length ≤ zs.length
def stepN (kvs : List (Int × Int)) (x : Int × Int) : List (Int × Int) := putA kvs x.1 ((getA kvs x.1).getD 0 + if x.1 < x.2 then -1 else 1)
theorem numAt_out {zs : List (Int × Int)} {v : Int} (h : v ∉ zs.map (·.1)) : numAt zs v = 0 := by
  unfold numAt
  have : ∀ x ∈ zs, (if x.1 = v then sgn x.1 x.2 else 0) = 0 := fun x hx => if_neg fun q => h (List.mem_map.mpr ⟨x, hx, q⟩)
  rw [List.map_congr_left this]
  induction zs with
  | nil => rfl
  | cons z zs ih =>
    rw [List.map_cons, List.sum_cons, ih (fun q => h (by rw [List.map_cons]; exact List.mem_cons_of_mem _ q)) (fun x hx => this x (List.mem_cons_of_mem _ hx))]
    rfl
theorem numS_step {zs kvs : List (Int × Int)} {x : Int × Int} (h : NumS zs kvs) : NumS (zs ++ [x]) (stepN kvs x) := by
  have hm : ∀ k, k ∈ (zs ++ [x]).map (·.1) ↔ k ∈ zs.map (·.1) ∨ k = x.1 := fun k => by
    rw [List.map_append, List.mem_append, List.map_singleton, List.mem_singleton]
  have hn : ∀ k, numAt (zs ++ [x]) k = numAt zs k + if x.1 = k then sgn x.1 x.2 else 0 := fun k => by
    unfold numAt
    rw [List.map_append, List.sum_append]
    simp
  refine ⟨?_, fun k => ?_, fun k => ?_, ?_⟩
  · unfold stepN
    rw [keys_put]
    split
    · exact h.nd
    · rename_i q
      exact List.nodup_append.mpr ⟨h.nd, List.nodup_cons.mpr ⟨List.not_mem_nil, List.nodup_nil⟩, fun a ha b hb e => q (by rw [List.mem_singleton] at hb; rw [← hb, ← e]; exact ha)⟩
  · unfold stepN
    rw [keys_put, hm, ← h.mem]
    split
    · rename_i q
      exact ⟨.inl, fun z => z.elim id fun z => z ▸ q⟩
    · rw [List.mem_append, List.mem_singleton]
  · unfold stepN
    rw [get_put, hn]
    by_cases e : k = x.1
    · subst e
      rw [if_pos rfl, if_pos ((hm _).mpr (.inr rfl)), if_pos rfl, h.get]
      by_cases q : x.1 ∈ zs.map (·.1)
      · rw [if_pos q]; rfl
      · rw [if_neg q, numAt_out q]; rfl
    · rw [if_neg e, h.get, if_neg (Ne.symm e), Int.add_zero]
      by_cases q : k ∈ zs.map (·.1)
      · rw [if_pos q, if_pos ((hm _).mpr (.inl q))]
      · rw [if_neg q, if_neg fun z => ((hm _).mp z).elim q e]
  · have : (stepN kvs x).length ≤ kvs.length + 1 := by
      have := congrArg List.length (keys_put (kvs := kvs) (k := x.1) (z := (getA kvs x.1).getD 0 + if x.1 < x.2 then -1 else 1))
      rw [List.length_map] at this
      unfold stepN
      rw [this]
      split
      · rw [List.length_map]; omega
      · rw [List.length_append, List.length_map]; simp
    have := h.len
    rw [List.length_append, List.length_singleton]
    omega
theorem numS_all : ∀ (ys zs kvs : List (Int × Int)), NumS zs kvs → NumS (zs ++ ys) (ys.foldl stepN kvs)
  | [], zs, kvs, h => by rw [List.append_nil]; exact h
  | y :: ys, zs, kvs, h => by
    have := numS_all ys (zs ++ [y]) (stepN kvs y) (numS_step h)
    rwa [List.append_assoc] at this
theorem numS_nil : NumS [] [] := ⟨List.nodup_nil, fun _ => Iff.rfl, fun _ => rfl, Nat.le_refl _⟩
/-- the tally: ascending, without 0 -/
def tallyV (zs : List (Int × Int)) : List (Int × Int) := ((usort (zs.map (·.1))).filter fun v => !decide (numAt zs v = 0)).map fun v => (v, numAt zs v)
theorem sortI_perm {xs ys : List Int} (h : xs.Perm ys) : sortI xs = sortI ys := by
  have p : (sortI xs).Perm xs := List.mergeSort_perm _ _
  refine sortI_eq (p.trans h) ?_
  have := List.pairwise_mergeSort (le := fun a b : Int => decide (a ≤ b)) (fun a b c h1 h2 => by simp at *; omega) (fun a b => by simp; omega) xs
  exact this.imp fun h => by simpa using h
theorem countLoop {δ ρ : Type} : ∀ (ys zs kvs : List (Int × Int)), NumS zs kvs → zs.length + ys.length ≤ 1000 →
    (forM (fun (x1 : (Int × Int)) (s2 : List (Int × Int)) => (fun j3 : Int => mb (putM s2 x1.1 (((getA s2 x1.1).getD 0) + j3)) fun numbers4 => .ok (.nx numbers4)) (if (decide (x1.1 < x1.2)) = true then (-1) else 1)) ys kvs : M (Out (List (Int × Int)) δ ρ)) = .ok (.nx (ys.foldl stepN kvs))
  | [], _, _, _, _ => rfl
  | y :: ys, zs, kvs, h, hl => by
    rw [List.length_cons] at hl
    have hk := h.len
    unfold forM
    have e : putM kvs y.1 ((getA kvs y.1).getD 0 + if (decide (y.1 < y.2)) = true then (-1) else 1) = .ok (stepN kvs y) := by
      unfold putM stepN
      rw [if_pos (Nat.lt_of_le_of_lt (show kvs.length ≤ 1000 by omega) (by decide))]
      simp only [decide_eq_true_eq]
    dsimp only
    rw [e, mbk]
    exact countLoop ys (zs ++ [y]) _ (numS_step h) (by rw [List.length_append, List.length_singleton]; omega)
theorem countedK {ss ts : List Int} (hb : (ss.zip ts).length ≤ 1000) : k_counted ss ts = .ok (tallyV (ss.zip ts)) := by
  unfold k_counted kc_counted
  rw [countLoop (ss.zip ts) [] [] numS_nil (by simpa using hb), sqk]
  have h := numS_all (ss.zip ts) [] [] numS_nil
  rw [List.nil_append] at h
  generalize (ss.zip ts).foldl stepN [] = kvs at h
  generalize ss.zip ts = zs at h hb
  have hs : sortI (kvs.map fun kv => kv.1) = usort (zs.map (·.1)) := sortI_perm ((List.perm_ext_iff_of_nodup h.nd (nub_nodup _)).mpr fun k => by rw [h.mem, mem_nub])
  have hk := h.len
  have hg : ∀ v ∈ usort (zs.map (·.1)), getM kvs v = .ok (numAt zs v) := fun v hv => by
    unfold getM
    rw [h.get, if_pos (mem_usort.mp hv)]
  have hl : (usort (zs.map (·.1))).length ≤ 1000000 := by
    rw [← hs]
    have := (List.mergeSort_perm (kvs.map fun kv => kv.1) fun a b => decide (a ≤ b)).length_eq
    unfold sortI
    rw [this, List.length_map]
    omega
  rw [hs, lcK (fun v => !decide (numAt zs v = 0)) (fun v => (v, numAt zs v)) hl]
  · rfl
  · intro v hv; rw [hg v hv, mbk]
  · intro v hv; rw [hg v hv, mbk]
theorem tally_ofK {b : BV} (g : Good b) (hb : b.strengths.length ≤ 1000) : k_tally_of b = .ok (tallyV (b.strengths.zip ((rng 0 b.strengths.length).map (reachV b)))) := by
  unfold k_tally_of kc_tally_of
  rw [reachesK g, mbk, countedK (by rw [List.length_zip]; omega)]
  rfl
theorem zip_rng {f : Int → Int} : ∀ (ss : List Int), ss.zip ((rng 0 ss.length).map f) = (rng 0 ss.length).map fun k => (sAt ss k, f k) := fun ss => by
  refine List.ext_getElem? fun i => ?_
  by_cases h : i < ss.length
  · have h2 : (rng 0 (ss.length : Int))[i]? = some (i : Int) := by rw [rng_get (by omega)]; simp
    rw [(List.getElem?_zip_eq_some (z := (ss[i], f i))).mpr ⟨List.getElem?_eq_getElem h, by rw [List.getElem?_map, h2]; rfl⟩, List.getElem?_map, h2]
    simp [sAt, List.getElem?_eq_getElem h]
  · rw [List.getElem?_eq_none (by rw [List.length_zip]; omega), List.getElem?_eq_none (by rw [List.length_map, rng_len]; omega)]
/-- the tally of a standing -/
def talV (b : BV) : List (Int × Int) := tallyV ((rng 0 b.strengths.length).map fun k => (sAt b.strengths k, reachV b k))
theorem talK {b : BV} (g : Good b) (hb : b.strengths.length ≤ 1000) : k_tally_of b = .ok (talV b) := by
  rw [tally_ofK g hb, zip_rng]
  rfl
theorem fst_rng (ss : List Int) (f : Int → Int) : ((rng 0 ss.length).map fun k => (sAt ss k, f k)).map (·.1) = ss := by
  rw [List.map_map]
  refine sAt_ext (by rw [List.length_map, rng_len]; omega) fun k h1 h2 => ?_
  rw [List.length_map, rng_len] at h2
  have h3 : (rng 0 (ss.length : Int))[k.toNat]? = some k := by rw [rng_get (by omega)]; congr 1; omega
  unfold sAt
  rw [List.getD_eq_getElem?_getD, List.getElem?_map, h3]
  rfl
/-! the law's own way to count -/
theorem foldl_add {α : Type} {g : α → Int} : ∀ (xs : List α) (a : Int), xs.foldl (fun s x => s + g x) a = a + (xs.map g).sum
  | [], a => by simp
  | x :: xs, a => by rw [List.foldl_cons, foldl_add xs]; simp; omega
theorem forM_filtM {α β ρ δ : Type} {f : α → List β → M (Out (List β) (List β) ρ)} {q : α → Bool} {g : α → β} : ∀ {xs : List α} {s0 : List β}, (∀ x ∈ xs, ∀ s : List β, s.length ≤ 900000 → f x s = .ok (.nx (if q x = true then s ++ [g x] else s))) → s0.length + xs.length ≤ 900000 → (forM f xs s0 : M (Out (List β) δ ρ)) = .ok (.nx (s0 ++ (xs.filter q).map g))
  | [], s0, _, _ => by simp [forM]
  | x :: xs, s0, h, hl => by
    rw [List.length_cons] at hl
    unfold forM
    rw [h x List.mem_cons_self s0 (by omega)]
    simp only
    by_cases c : q x = true
    · rw [if_pos c, forM_filtM (fun y hy => h y (List.mem_cons_of_mem _ hy)) (by rw [List.length_append, List.length_singleton]; omega), List.filter_cons_of_pos c]
      simp
    · rw [if_neg c, forM_filtM (fun y hy => h y (List.mem_cons_of_mem _ hy)) (by omega), List.filter_cons_of_neg c]
theorem nub_len : ∀ xs : List Int, (nub xs).length ≤ xs.length
  | [] => Nat.le_refl _
  | x :: xs => by
    have := nub_len xs
    unfold nub
    split
    · rw [List.length_cons]; omega
    · rw [List.length_cons, List.length_cons]; omega
theorem usort_le (xs : List Int) : (usort xs).length ≤ xs.length := by
  unfold usort sortI
  rw [(List.mergeSort_perm _ _).length_eq]
  exact nub_len xs
theorem lawTallyK {r : Bool} {zs ss : List Int} (g : Good ⟨ss, zs, r⟩) (hb : ss.length < 64) : k__law_tally r zs ss = .ok (talV ⟨ss, zs, r⟩) := by
  unfold k__law_tally kc__law_tally
  have hz : zs.length = ss.length := g.len
  have ss1 : sortSet ss = .ok (usort ss) := by unfold sortSet; rw [if_pos hb]
  have ul := usort_le ss
  rw [ss1, mbk, rngK (by decide) (by decide) (by omega) (by omega)]
  rw [forM_filtM (q := fun v => !decide (numAt ((rng 0 ss.length).map fun k => (sAt ss k, reachV ⟨ss, zs, r⟩ k)) v = 0)) (g := fun v => (v, numAt ((rng 0 ss.length).map fun k => (sAt ss k, reachV ⟨ss, zs, r⟩ k)) v)) ?_ (by simp; omega), sqk]
  · unfold talV tallyV
    simp only [fst_rng]
    rfl
  · intro v _ s hs
    rw [mbk]
    have key := forM_all (δ := List (Int × Int)) (ρ := List (Int × Int)) (f := fun (k5 : Int) (s6 : Int) =>
      mb (mb (ixM ss k5) fun v7 => (.ok (decide (v7 = v)))) fun v8 => if v8 = true then mb (mb (k__law_reach r zs ss k5) fun v9 => (.ok (decide (v < v9)))) fun v10 => if v10 = true then .ok (.nx (s6 - 1))
      else .ok (.nx (s6 + 1))
      else .ok (.nx s6)) (fun s k => s + if sAt ss k = v then sgn (sAt ss k) (reachV ⟨ss, zs, r⟩ k) else 0) (fun _ => True) (xs := rng 0 ss.length) (s0 := 0) trivial (fun k hk t _ => by
        have := mem_rng.mp hk
        refine ⟨?_, trivial⟩
        rw [ixS this.1 this.2, mbk, mbk]
        by_cases e : sAt ss k = v
        · rw [if_pos (decide_eq_true e), lawReachK hz (by omega) this.1 this.2, mbk, mbk, if_pos e]
          unfold sgn
          by_cases q : v < reachV ⟨ss, zs, r⟩ k
          · rw [if_pos (decide_eq_true q), if_pos (by rw [e]; exact q)]; rfl
          · rw [if_neg (by simpa using q), if_neg (by rw [e]; exact q)]
        · rw [if_neg (by simpa using e), if_neg e, Int.add_zero])
    rw [hz, key.1, sqk, foldl_add]
    have en : numAt ((rng 0 ss.length).map fun k => (sAt ss k, reachV ⟨ss, zs, r⟩ k)) v = ((rng 0 ss.length).map fun k => if sAt ss k = v then sgn (sAt ss k) (reachV ⟨ss, zs, r⟩ k) else 0).sum := by
      unfold numAt
      rw [List.map_map]
      rfl
    rw [Int.zero_add, ← en]
    generalize numAt ((rng 0 ss.length).map fun k => (sAt ss k, reachV ⟨ss, zs, r⟩ k)) v = m
    by_cases q : m = 0
    · simp [q]
    · rw [if_pos (by simp [q]), appK (by omega), mbk, if_pos (by simp [q])]
/-! what a tally tells at a value -/
def atV (t : List (Int × Int)) (v : Int) : Int := (getA t v).getD 0
theorem atK (t : List (Int × Int)) (v : Int) : k__law_at t v = .ok (atV t v) := by
  unfold k__law_at kc__law_at
  rw [forM_ret (fun x => decide (x.1 = v)) (fun x => x.2)]
  · unfold atV getA
    cases t.find? (fun x => decide (x.1 = v)) <;> rfl
  · intro x _; rfl
theorem merge_same : ∀ (t acc : List (Int × Int)), ((acc ++ t).map (·.1)).Nodup → t.foldl (fun acc kv => putA acc kv.1 kv.2) acc = acc ++ t
  | [], acc, _ => by simp
  | kv :: t, acc, h => by
    rw [List.foldl_cons, putA_out, merge_same t _ (by simpa using h)]
    · simp
    · intro x hx q
      rw [List.map_append, List.map_cons] at h
      exact (List.nodup_append.mp h).2.2 x.1 (List.mem_map.mpr ⟨x, hx, rfl⟩) kv.1 List.mem_cons_self q
theorem mergeN {t : List (Int × Int)} (h : (t.map (·.1)).Nodup) : mergeA t = t := merge_same t [] (by simpa using h)
/-- less, equal, greater -/
def cmpV (one other : List (Int × Int)) : Int := match (usort (one.map (·.1) ++ other.map (·.1))).find? fun v => !decide (atV one v = atV other v) with
  | some v => if atV one v < atV other v then -1 else 1
  | none => 0
theorem cmpK {one other : List (Int × Int)} (h1 : (one.map (·.1)).Nodup) (h2 : (other.map (·.1)).Nodup) (hl : one.length + other.length < 500) : k_compare_tallies one other = .ok (cmpV one other) := by
  unfold k_compare_tallies kc_compare_tallies
  rw [mergeN h1, mergeN h2, catK (by simp; omega), mbk]
  have e : sortSetB (one.map (·.1) ++ other.map (·.1)) = .ok (usort (one.map (·.1) ++ other.map (·.1))) := by
    unfold sortSetB
    rw [if_pos (by simp; omega)]
  rw [e, mbk, forM_ret (fun v => !decide (atV one v = atV other v)) (fun v => if atV one v < atV other v then -1 else 1)]
  · unfold cmpV
    cases (usort (one.map (·.1) ++ other.map (·.1))).find? (fun v => !decide (atV one v = atV other v)) <;> rfl
  · intro v _
    unfold atV
    generalize (getA one v).getD 0 = p
    generalize (getA other v).getD 0 = q
    dsimp only
    by_cases a : p < q
    · rw [if_pos (decide_eq_true (by omega)), if_pos (by simp; omega), if_pos a]
    · rw [if_neg (by simp; omega)]
      by_cases c : q < p
      · rw [if_pos (decide_eq_true (by omega)), if_pos (by simp; omega), if_neg a]
      · rw [if_neg (by simp; omega), if_neg (by simp; omega)]
theorem usort_up (xs : List Int) : (usort xs).Pairwise (· ≤ ·) := by
  have := List.pairwise_mergeSort (le := fun a b : Int => decide (a ≤ b)) (fun a b c h1 h2 => by simp at *; omega) (fun a b => by simp; omega) (nub xs)
  exact this.imp fun h => by simpa using h
theorem usort_nodup (xs : List Int) : (usort xs).Nodup := (List.mergeSort_perm _ _).nodup_iff.mpr (nub_nodup xs)
theorem find_least {q : Int → Bool} : ∀ {xs : List Int} {v : Int}, xs.Pairwise (· ≤ ·) → xs.find? q = some v → ∀ w ∈ xs, q w = true → v ≤ w
  | [], _, _, h, _, _, _ => by cases h
  | x :: xs, v, hp, h, w, hw, hq => by
    obtain ⟨p1, p2⟩ := List.pairwise_cons.mp hp
    rw [List.find?_cons] at h
    cases e : q x with
    | true =>
      rw [e] at h
      cases h
      rcases List.mem_cons.mp hw with rfl | hw
      · exact Int.le_refl _
      · exact p1 w hw
    | false =>
      rw [e] at h
      rcases List.mem_cons.mp hw with rfl | hw
      · rw [e] at hq; cases hq
      · exact find_least p2 h w hw hq
end DL

namespace DL
open PySem PySem.Spec PyProof.Rows L2
/-! ### the text -/
def topS (i : Nat) : Stmt := PySem.Challenge.pw_retinue_k48_whole_last_waker_leads.main.body.getD i (.Pass ⟨0, 0, 0, 0⟩)
def inClass (s : Stmt) (i : Nat) : Stmt := match s with
  | .ClassDef _ _ _ b _ _ _ _ _ _ _ => b.getD i (.Pass ⟨0, 0, 0, 0⟩)
  | _ => (.Pass ⟨0, 0, 0, 0⟩)
abbrev s__law_cell : Stmt := topS 42
abbrev s__law_draws : Stmt := topS 43
abbrev s__law_lengths : Stmt := topS 44
abbrev s__law_shuffled : Stmt := topS 52
abbrev s__law_reach : Stmt := topS 45
abbrev s__law_left : Stmt := topS 53
abbrev s_check_order : Stmt := topS 29
abbrev s_Beads___init__ : Stmt := inClass (topS 14) 0
abbrev s_Beads___len__ : Stmt := inClass (topS 14) 5
abbrev s_check_place : Stmt := topS 10
abbrev s_distinct : Stmt := topS 11
abbrev s_run_of : Stmt := topS 16
abbrev s_train_of : Stmt := topS 17
abbrev s_reach_of : Stmt := topS 18
abbrev s_changes_of : Stmt := topS 25
abbrev s_replaced : Stmt := topS 24
abbrev s_wake : Stmt := topS 26
abbrev s_woken_once : Stmt := topS 30
abbrev s__law_is_integer : Stmt := topS 49
abbrev s__law_numbers : Stmt := topS 50
abbrev s__law_is_standing : Stmt := topS 51
abbrev s_Beads_total : Stmt := inClass (topS 14) 1
abbrev s_Beads_greatest : Stmt := inClass (topS 14) 2
abbrev s_check_ring : Stmt := topS 32
abbrev s_check_tall : Stmt := topS 39
abbrev s_can_lead : Stmt := topS 40
abbrev s_strongest_of : Stmt := topS 35
abbrev s_sums_before : Stmt := topS 12
abbrev s_arc_sums : Stmt := topS 33
abbrev s_is_cutting : Stmt := topS 34
abbrev s_settled_cut : Stmt := topS 36
abbrev s__law_alone : Stmt := topS 56
abbrev s__law_handfuls : Stmt := topS 54
abbrev s__law_restless : Stmt := topS 47
abbrev s__law_woken : Stmt := topS 46
abbrev s__law_order : Stmt := topS 48
abbrev s__law_rested : Stmt := topS 55
abbrev s_reaches : Stmt := topS 19
abbrev s_restless : Stmt := topS 27
abbrev s_lord_of : Stmt := topS 20
abbrev s_lords_of : Stmt := topS 21
abbrev s_leaders_of : Stmt := topS 22
abbrev s_resting_cut : Stmt := topS 37
abbrev s__law_kept : Stmt := topS 57
abbrev s_law : Stmt := topS 58
abbrev s_BadOrder___init__ : Stmt := inClass (topS 8) 0
abbrev s_BadBeads___init__ : Stmt := inClass (topS 3) 0
abbrev s_BadPlace___init__ : Stmt := inClass (topS 4) 0
abbrev s_WrongKind___init__ : Stmt := inClass (topS 5) 0
abbrev s_NotTall___init__ : Stmt := inClass (topS 7) 0
abbrev s_NotAtRest___init__ : Stmt := inClass (topS 6) 0
theorem sc__law_cell : FnScope ["script", "k"] ["script", "k"] (defScope s__law_cell) := ⟨rfl, rfl, rfl, by decide +kernel, rfl, by decide +kernel, by decide +kernel⟩
theorem sc__law_draws : FnScope ["cell", "sizes", "left", "draws", "k", "mixed"] ["cell", "sizes"] (defScope s__law_draws) := ⟨rfl, rfl, rfl, by decide +kernel, rfl, by decide +kernel, by decide +kernel⟩
theorem sc__law_lengths : FnScope ["cell", "many", "flavour", "size", "draw"] ["cell", "many"] (defScope s__law_lengths) := ⟨rfl, rfl, rfl, by decide +kernel, rfl, by decide +kernel, by decide +kernel⟩
theorem sc__law_shuffled : FnScope ["cell", "many", "left", "places", "draw", "k"] ["cell", "many"] (defScope s__law_shuffled) := ⟨rfl, rfl, rfl, by decide +kernel, rfl, by decide +kernel, by decide +kernel⟩
theorem sc__law_reach : FnScope ["round_flag", "sizes", "strengths", "place", "total", "step", "at"] ["round_flag", "sizes", "strengths", "place"] (defScope s__law_reach) := ⟨rfl, rfl, rfl, by decide +kernel, rfl, by decide +kernel, by decide +kernel⟩
theorem sc__law_left : FnScope ["round_flag", "sizes", "places", "now", "place"] ["round_flag", "sizes", "places"] (defScope s__law_left) := ⟨rfl, rfl, rfl, by decide +kernel, rfl, by decide +kernel, by decide +kernel⟩
theorem sc_check_order : FnScope ["order", "size", "named", "index", "place"] ["order", "size"] (defScope s_check_order) := ⟨rfl, rfl, rfl, by decide +kernel, rfl, by decide +kernel, by decide +kernel⟩
theorem sc_Beads___init__ : FnScope ["self", "strengths", "lengths", "ring", "place"] ["self", "strengths", "lengths", "ring"] (defScope s_Beads___init__) := ⟨rfl, rfl, rfl, by decide +kernel, rfl, by decide +kernel, by decide +kernel⟩
theorem sc_Beads___len__ : FnScope ["self"] ["self"] (defScope s_Beads___len__) := ⟨rfl, rfl, rfl, by decide +kernel, rfl, by decide +kernel, by decide +kernel⟩
theorem sc_check_place : FnScope ["place", "size"] ["place", "size"] (defScope s_check_place) := ⟨rfl, rfl, rfl, by decide +kernel, rfl, by decide +kernel, by decide +kernel⟩
theorem sc_distinct : FnScope ["handful", "size", "place"] ["handful", "size"] (defScope s_distinct) := ⟨rfl, rfl, rfl, by decide +kernel, rfl, by decide +kernel, by decide +kernel⟩
theorem sc_run_of : FnScope ["beads", "place", "after"] ["beads", "place"] (defScope s_run_of) := ⟨rfl, rfl, rfl, by decide +kernel, rfl, by decide +kernel, by decide +kernel⟩
theorem sc_train_of : FnScope ["beads", "place", "strengths", "train", "at"] ["beads", "place"] (defScope s_train_of) := ⟨rfl, rfl, rfl, by decide +kernel, rfl, by decide +kernel, by decide +kernel⟩
theorem sc_reach_of : FnScope ["beads", "place", "train", "at"] ["beads", "place"] (defScope s_reach_of) := ⟨rfl, rfl, rfl, by decide +kernel, rfl, by decide +kernel, by decide +kernel⟩
theorem sc_changes_of : FnScope ["beads", "handful", "changes", "place", "before", "after"] ["beads", "handful"] (defScope s_changes_of) := ⟨rfl, rfl, rfl, by decide +kernel, rfl, by decide +kernel, by decide +kernel⟩
theorem sc_replaced : FnScope ["beads", "changes", "strengths", "place", "_", "after"] ["beads", "changes"] (defScope s_replaced) := ⟨rfl, rfl, rfl, by decide +kernel, rfl, by decide +kernel, by decide +kernel⟩
theorem sc_wake : FnScope ["beads", "handful"] ["beads", "handful"] (defScope s_wake) := ⟨rfl, rfl, rfl, by decide +kernel, rfl, by decide +kernel, by decide +kernel⟩
theorem sc_woken_once : FnScope ["lengths", "order", "ring", "beads", "place"] ["lengths", "order", "ring"] (defScope s_woken_once) := ⟨rfl, rfl, rfl, by decide +kernel, rfl, by decide +kernel, by decide +kernel⟩
theorem sc__law_is_integer : FnScope ["actual"] ["actual"] (defScope s__law_is_integer) := ⟨rfl, rfl, rfl, by decide +kernel, rfl, by decide +kernel, by decide +kernel⟩
theorem sc__law_numbers : FnScope ["actual", "due", "as_tuple", "k"] ["actual", "due", "as_tuple"] (defScope s__law_numbers) := ⟨rfl, rfl, rfl, by decide +kernel, rfl, by decide +kernel, by decide +kernel⟩
theorem sc__law_is_standing : FnScope ["actual", "round_flag", "sizes", "strengths"] ["actual", "round_flag", "sizes", "strengths"] (defScope s__law_is_standing) := ⟨rfl, rfl, rfl, by decide +kernel, rfl, by decide +kernel, by decide +kernel⟩
theorem sc_Beads_total : FnScope ["self"] ["self"] (defScope s_Beads_total) := ⟨rfl, rfl, rfl, by decide +kernel, rfl, by decide +kernel, by decide +kernel⟩
theorem sc_Beads_greatest : FnScope ["self"] ["self"] (defScope s_Beads_greatest) := ⟨rfl, rfl, rfl, by decide +kernel, rfl, by decide +kernel, by decide +kernel⟩
theorem sc_check_ring : FnScope ["beads"] ["beads"] (defScope s_check_ring) := ⟨rfl, rfl, rfl, by decide +kernel, rfl, by decide +kernel, by decide +kernel⟩
theorem sc_check_tall : FnScope ["beads"] ["beads"] (defScope s_check_tall) := ⟨rfl, rfl, rfl, by decide +kernel, rfl, by decide +kernel, by decide +kernel⟩
theorem sc_can_lead : FnScope ["beads", "total", "place"] ["beads"] (defScope s_can_lead) := ⟨rfl, rfl, rfl, by decide +kernel, rfl, by decide +kernel, by decide +kernel⟩
theorem sc_strongest_of : FnScope ["beads", "greatest", "place"] ["beads"] (defScope s_strongest_of) := ⟨rfl, rfl, rfl, by decide +kernel, rfl, by decide +kernel, by decide +kernel⟩
theorem sc_sums_before : FnScope ["lengths", "sums", "length"] ["lengths"] (defScope s_sums_before) := ⟨rfl, rfl, rfl, by decide +kernel, rfl, by decide +kernel, by decide +kernel⟩
theorem sc_arc_sums : FnScope ["lengths", "heads", "sums", "before", "after", "head", "k"] ["lengths", "heads"] (defScope s_arc_sums) := ⟨rfl, rfl, rfl, by decide +kernel, rfl, by decide +kernel, by decide +kernel⟩
theorem sc_is_cutting : FnScope ["beads", "heads", "k", "sums"] ["beads", "heads"] (defScope s_is_cutting) := ⟨rfl, rfl, rfl, by decide +kernel, rfl, by decide +kernel, by decide +kernel⟩
theorem sc_settled_cut : FnScope ["beads", "heads"] ["beads"] (defScope s_settled_cut) := ⟨rfl, rfl, rfl, by decide +kernel, rfl, by decide +kernel, by decide +kernel⟩
theorem sc__law_alone : FnScope ["beads", "sizes", "strengths", "last", "told"] ["beads", "sizes", "strengths", "last"] (defScope s__law_alone) := ⟨rfl, rfl, rfl, by decide +kernel, rfl, by decide +kernel, by decide +kernel⟩
theorem sc__law_handfuls : FnScope ["cell", "size", "many", "draws", "k"] ["cell", "size", "many"] (defScope s__law_handfuls) := ⟨rfl, rfl, rfl, by decide +kernel, rfl, by decide +kernel, by decide +kernel⟩
theorem sc__law_restless : FnScope ["round_flag", "sizes", "strengths", "k"] ["round_flag", "sizes", "strengths"] (defScope s__law_restless) := ⟨rfl, rfl, rfl, by decide +kernel, rfl, by decide +kernel, by decide +kernel⟩
theorem sc__law_woken : FnScope ["round_flag", "sizes", "strengths", "places", "after", "place"] ["round_flag", "sizes", "strengths", "places"] (defScope s__law_woken) := ⟨rfl, rfl, rfl, by decide +kernel, rfl, by decide +kernel, by decide +kernel⟩
theorem sc__law_order : FnScope ["cell", "round_flag", "sizes", "strengths", "many", "draws", "order", "now", "step", "restless_v", "picks", "k"] ["cell", "round_flag", "sizes", "strengths", "many"] (defScope s__law_order) := ⟨rfl, rfl, rfl, by decide +kernel, rfl, by decide +kernel, by decide +kernel⟩
theorem sc__law_rested : FnScope ["sizes", "strengths", "now", "idle", "look", "place", "reach"] ["sizes", "strengths"] (defScope s__law_rested) := ⟨rfl, rfl, rfl, by decide +kernel, rfl, by decide +kernel, by decide +kernel⟩
theorem sc_reaches : FnScope ["beads", "place"] ["beads"] (defScope s_reaches) := ⟨rfl, rfl, rfl, by decide +kernel, rfl, by decide +kernel, by decide +kernel⟩
theorem sc_restless : FnScope ["beads", "after", "place"] ["beads"] (defScope s_restless) := ⟨rfl, rfl, rfl, by decide +kernel, rfl, by decide +kernel, by decide +kernel⟩
theorem sc_lord_of : FnScope ["beads", "place", "before", "at"] ["beads", "place"] (defScope s_lord_of) := ⟨rfl, rfl, rfl, by decide +kernel, rfl, by decide +kernel, by decide +kernel⟩
theorem sc_lords_of : FnScope ["beads", "place"] ["beads"] (defScope s_lords_of) := ⟨rfl, rfl, rfl, by decide +kernel, rfl, by decide +kernel, by decide +kernel⟩
theorem sc_leaders_of : FnScope ["beads", "lords", "place"] ["beads"] (defScope s_leaders_of) := ⟨rfl, rfl, rfl, by decide +kernel, rfl, by decide +kernel, by decide +kernel⟩
theorem sc_resting_cut : FnScope ["beads", "places"] ["beads"] (defScope s_resting_cut) := ⟨rfl, rfl, rfl, by decide +kernel, rfl, by decide +kernel, by decide +kernel⟩
theorem sc__law_kept : FnScope ["sizes", "strengths", "order", "last", "now", "handful", "end", "beads"] ["sizes", "strengths", "order", "last"] (defScope s__law_kept) := ⟨rfl, rfl, rfl, by decide +kernel, rfl, by decide +kernel, by decide +kernel⟩
theorem sc_law : FnScope ["script", "draws", "many", "sizes", "places", "due", "total", "given", "passed", "beads", "most", "order"] ["script"] (defScope s_law) := ⟨rfl, rfl, rfl, by decide +kernel, rfl, by decide +kernel, by decide +kernel⟩
theorem sc_BadOrder___init__ : FnScope ["self", "index"] ["self", "index"] (defScope s_BadOrder___init__) := ⟨rfl, rfl, rfl, by decide +kernel, rfl, by decide +kernel, by decide +kernel⟩
theorem sc_BadBeads___init__ : FnScope ["self", "place"] ["self", "place"] (defScope s_BadBeads___init__) := ⟨rfl, rfl, rfl, by decide +kernel, rfl, by decide +kernel, by decide +kernel⟩
theorem sc_BadPlace___init__ : FnScope ["self", "place"] ["self", "place"] (defScope s_BadPlace___init__) := ⟨rfl, rfl, rfl, by decide +kernel, rfl, by decide +kernel, by decide +kernel⟩
theorem sc_WrongKind___init__ : FnScope ["self", "ring"] ["self", "ring"] (defScope s_WrongKind___init__) := ⟨rfl, rfl, rfl, by decide +kernel, rfl, by decide +kernel, by decide +kernel⟩
theorem sc_NotTall___init__ : FnScope ["self", "greatest", "total"] ["self", "greatest", "total"] (defScope s_NotTall___init__) := ⟨rfl, rfl, rfl, by decide +kernel, rfl, by decide +kernel, by decide +kernel⟩
theorem sc_NotAtRest___init__ : FnScope ["self", "place"] ["self", "place"] (defScope s_NotAtRest___init__) := ⟨rfl, rfl, rfl, by decide +kernel, rfl, by decide +kernel, by decide +kernel⟩
theorem fC_Beads_strengths (z : BV) : eBeads z = .obj "Beads" (fB z) ∧ (fB z).lookup ("strengths" : Str) = some ((eT eI) z.strengths) := ⟨rfl, by rfl⟩
theorem fC_Beads_lengths (z : BV) : eBeads z = .obj "Beads" (fB z) ∧ (fB z).lookup ("lengths" : Str) = some ((eT eI) z.lengths) := ⟨rfl, by rfl⟩
theorem fC_Beads_ring (z : BV) : eBeads z = .obj "Beads" (fB z) ∧ (fB z).lookup ("ring" : Str) = some (eB z.ring) := ⟨rfl, by rfl⟩
/-! ### what each def computes -/
def c__law_cell (script : (List Int)) (k : Int) : M (Out Unit Empty Int) := if (decide (k < (script.length : Int))) = true then mb (ixM script k) fun v1 => .ok (.rt v1)
    else .ok (.rt 0)
def f__law_cell (script : (List Int)) (k : Int) : M Int := fnV .no (c__law_cell script k)
def c__law_draws (cell : Int) (sizes : (List Int)) : M (Out Unit Empty (List Int)) := mb (rngM 0 (sizes.length : Int)) fun v82 => sq (forM (fun (k59 : Int) (s58 : Int × List Int) =>
    mb (mb (powM 10 18) fun v60 => (.ok (decide (v60 ≤ cell)))) fun v80 => if v80 = true then mb (mb (ixM sizes k59) fun v61 => modM s58.1 v61) fun v65 => mb (app s58.2 v65) fun draws62 =>
    mb (mb (ixM sizes k59) fun v63 => divM s58.1 v63) fun left64 =>
    .ok (.nx (left64, draws62))
    else mb (mb (mb (mb (mulM 7919 k59) fun v66 => (.ok (cell + v66))) fun v67 => (.ok (v67 + 13))) fun v68 => modM v68 2147483647) fun mixed69 =>
    mb (mb (mulM mixed69 (mixed69 + 48271)) fun v70 => modM v70 2147483629) fun mixed71 =>
    mb (mb (mb (mulM mixed71 (mixed71 + 69621)) fun v72 => mb (mulM 31 k59) fun v73 => (.ok (v72 + v73))) fun v74 => modM v74 2147483647) fun mixed75 =>
    mb (mb (divM mixed75 9) fun v76 => mb (ixM sizes k59) fun v77 => modM v76 v77) fun v79 => mb (app s58.2 v79) fun draws78 =>
    .ok (.nx (s58.1, draws78))) v82 (cell, ([] : List Int))) fun s81 =>
    .ok (.rt s81.2)
def f__law_draws (cell : Int) (sizes : (List Int)) : M (List Int) := fnV .no (c__law_draws cell sizes)
def c__law_lengths (cell : Int) (many : Int) : M (Out Unit Empty (List Int)) := mb (mb (f__law_draws cell [4]) fun v104 => ixM v104 0) fun flavour105 =>
    mb (mb (mb (powM 10 9) fun v106 => (.ok [1, 1, 4, v106])) fun v107 => ixM v107 flavour105) fun size108 =>
    mb (mb (mb (mb (mb (repM [size108] many) fun v109 => catM [4] v109) fun v110 => f__law_draws cell v110) fun v111 => (.ok (cut v111 (some 1) none))) fun v114 => mapC (fun draw112 => (.ok (1 + draw112))) v114) fun v115 => .ok (.rt v115)
def f__law_lengths (cell : Int) (many : Int) : M (List Int) := fnV .no (c__law_lengths cell many)
def c__law_shuffled (cell : Int) (many : Int) : M (Out Unit Empty (List Int)) := mb (mb (rngM 0 many) fun v153 => mapC (fun k151 => (.ok k151)) v153) fun left154 =>
    mb (mb (mb (rngM 0 many) fun v158 => mapC (fun k156 => (.ok (many - k156))) v158) fun v159 => f__law_draws cell v159) fun v166 => sq (forM (fun (draw161 : Int) (s160 : List Int × List Int) =>
    mb (popAtM s160.2 draw161) fun u164 => mb (app s160.1 u164.1) fun places163 =>
    (fun (left162 : List Int) =>
    .ok (.nx (places163, left162))) u164.2) v166 (([] : List Int), left154)) fun s165 =>
    .ok (.rt s165.1)
def f__law_shuffled (cell : Int) (many : Int) : M (List Int) := fnV .no (c__law_shuffled cell many)
def c__law_reach (round_flag : Bool) (sizes : (List Int)) (strengths : (List Int)) (place : Int) : M (Out Unit Empty Int) := mb (ixM sizes place) fun total186 =>
    mb (rngM 1 (sizes.length : Int)) fun v199 => sq (forM (fun (step188 : Int) (s187 : Int) =>
    sq (if (decide ((sizes.length : Int) ≤ (place + step188))) = true then if (!round_flag) = true then .ok (.bk s187)
    else .ok (.nx ((place + step188) - (sizes.length : Int))) else .ok (.nx (place + step188))) fun (j192 : Int) =>
    mb (mb (ixM strengths j192) fun v193 => mb (ixM strengths place) fun v194 => (.ok (decide (v194 ≤ v193)))) fun v197 => if v197 = true then .ok (.bk s187)
    else mb (mb (ixM sizes j192) fun v195 => (.ok (s187 + v195))) fun total196 =>
    .ok (.nx total196)) v199 total186) fun s198 =>
    .ok (.rt s198)
def f__law_reach (round_flag : Bool) (sizes : (List Int)) (strengths : (List Int)) (place : Int) : M Int := fnV .no (c__law_reach round_flag sizes strengths place)
def c__law_left (round_flag : Bool) (sizes : (List Int)) (places : (List Int)) : M (Out Unit Empty (List Int)) := mb (repM [sizes.sum] (sizes.length : Int)) fun now203 =>
    sq (forM (fun (place205 : Int) (s204 : List Int) =>
    mb (f__law_reach round_flag sizes s204 place205) fun v207 => mb (setM s204 place205 v207) fun now206 =>
    .ok (.nx now206)) places now203) fun s208 =>
    .ok (.rt s208)
def f__law_left (round_flag : Bool) (sizes : (List Int)) (places : (List Int)) : M (List Int) := fnV .no (c__law_left round_flag sizes places)
def c_check_order (order : (List Int)) (size : Int) : M (Out Unit Empty Unit) := mb (repM [false] size) fun named219 =>
    sq (forM (fun (x221 : (Int × Int)) (s220 : List Bool) =>
    mb (if (decide (x221.2 < 0)) = true then .ok true else if (decide (size ≤ x221.2)) = true then .ok true else ixM s220 x221.2) fun v223 => if v223 = true then .er ⟨"BadOrder", [("index", eI x221.1)]⟩
    else mb (setM s220 x221.2 true) fun named222 =>
    .ok (.nx named222)) (enm order) named219) fun s224 =>
    if (decide ((order.length : Int) < size)) = true then .er ⟨"BadOrder", [("index", eI (order.length : Int))]⟩
    else .ok (.nx ())
def f_check_order (order : (List Int)) (size : Int) : M Unit := fnV (.ok ()) (c_check_order order size)
def c_Beads___init__ (strengths : (List Int)) (lengths : (List Int)) (ring : Bool) : M (Out BV Empty Unit) := (fun (j241 : (List Int)) =>
    if ((decide (strengths = ([] : List Int))) || (!decide ((j241.length : Int) = (strengths.length : Int)))) = true then .er ⟨"BadBeads", [("place", eI (-1))]⟩
    else mb (rngM 0 (strengths.length : Int)) fun v250 => sq (forM (fun (place244 : Int) (s243 : Unit) =>
    mb (mb (mb (ixM strengths place244) fun v245 => (.ok (decide (v245 < 0)))) fun v247 => if v247 = true then .ok true else mb (ixM j241 place244) fun v246 => (.ok (decide (v246 < 1)))) fun v248 => if v248 = true then .er ⟨"BadBeads", [("place", eI place244)]⟩
    else .ok (.nx ())) v250 ()) fun s249 =>
    .ok (.nx ⟨strengths, j241, ring⟩)) lengths
def f_Beads___init__ (strengths : (List Int)) (lengths : (List Int)) (ring : Bool) : M BV := fnI (c_Beads___init__ strengths lengths ring)
def c_Beads___len__ (self : BV) : M (Out Unit Empty Int) := .ok (.rt (self.strengths.length : Int))
def f_Beads___len__ (self : BV) : M Int := fnV .no (c_Beads___len__ self)
def c_check_place (place : Int) (size : Int) : M (Out Unit Empty Unit) := if ((decide (place < 0)) || (decide (size ≤ place))) = true then .er ⟨"BadPlace", [("place", eI place)]⟩
    else .ok (.nx ())
def f_check_place (place : Int) (size : Int) : M Unit := fnV (.ok ()) (c_check_place place size)
def c_distinct (handful : (List Int)) (size : Int) : M (Out Unit Empty (List Int)) := sq (forM (fun (place261 : Int) (s260 : Unit) =>
    mb (f_check_place place261 size) fun v262 => .ok (.nx ())) handful ()) fun s263 =>
    mb (sortSet handful) fun v264 => .ok (.rt v264)
def f_distinct (handful : (List Int)) (size : Int) : M (List Int) := fnV .no (c_distinct handful size)
def c_run_of (beads : BV) (place : Int) : M (Out Unit Empty (List Int)) := mb (mb (mb (f_Beads___len__ beads) lenO) fun v279 => rngL (place + 1) v279) fun after280 =>
    sq (if beads.ring = true then mb (mb (rngL 0 place) fun v283 => catM after280 v283) fun after284 =>
    .ok (.nx after284) else .ok (.nx after280)) fun (j285 : List Int) =>
    .ok (.rt j285)
def f_run_of (beads : BV) (place : Int) : M (List Int) := fnV .no (c_run_of beads place)
def c_train_of (beads : BV) (place : Int) : M (Out Unit Empty (List Int)) := mb (mb (mb (f_Beads___len__ beads) lenO) fun v307 => f_check_place place v307) fun v318 => mb (f_run_of beads place) fun v317 => sq (forM (fun (at311 : Int) (s310 : List Int) =>
    mb (mb (ixM beads.strengths at311) fun v312 => mb (ixM beads.strengths place) fun v313 => (.ok (decide (v313 ≤ v312)))) fun v315 => if v315 = true then .ok (.bk s310)
    else mb (app s310 at311) fun train314 =>
    .ok (.nx train314)) v317 ([] : List Int)) fun s316 =>
    .ok (.rt s316)
def f_train_of (beads : BV) (place : Int) : M (List Int) := fnV .no (c_train_of beads place)
def c_reach_of (beads : BV) (place : Int) : M (Out Unit Empty Int) := mb (f_train_of beads place) fun train325 =>
    mb (mb (ixM beads.lengths place) fun v329 => mb (mb (mapC (fun at326 => ixM beads.lengths at326) train325) fun v328 => (.ok v328.sum)) fun v330 => (.ok (v329 + v330))) fun v331 => .ok (.rt v331)
def f_reach_of (beads : BV) (place : Int) : M Int := fnV .no (c_reach_of beads place)
def c_changes_of (beads : BV) (handful : (List Int)) : M (Out Unit Empty (List (Int × Int × Int))) := mb (mb (mb (f_Beads___len__ beads) lenO) fun v346 => f_distinct handful v346) fun v353 => sq (forM (fun (place348 : Int) (s347 : List (Int × Int × Int)) =>
    mb (ixM beads.strengths place348) fun before349 =>
    mb (f_reach_of beads place348) fun after350 =>
    if (!decide (after350 = before349)) = true then mb (app s347 (place348, before349, after350)) fun changes351 =>
    .ok (.nx changes351)
    else .ok (.nx s347)) v353 ([] : List (Int × Int × Int))) fun s352 =>
    .ok (.rt s352)
def f_changes_of (beads : BV) (handful : (List Int)) : M (List (Int × Int × Int)) := fnV .no (c_changes_of beads handful)
def c_Beads___init___v1 (strengths : (List Int)) (lengths : (List Int)) (ring : Bool) : M (Out BV Empty Unit) := (fun (j375 : (List Int)) =>
    if ((decide (strengths = ([] : List Int))) || (!decide ((j375.length : Int) = (strengths.length : Int)))) = true then .er ⟨"BadBeads", [("place", eI (-1))]⟩
    else mb (rngM 0 (strengths.length : Int)) fun v384 => sq (forM (fun (place378 : Int) (s377 : Unit) =>
    mb (mb (mb (ixM strengths place378) fun v379 => (.ok (decide (v379 < 0)))) fun v381 => if v381 = true then .ok true else mb (ixM j375 place378) fun v380 => (.ok (decide (v380 < 1)))) fun v382 => if v382 = true then .er ⟨"BadBeads", [("place", eI place378)]⟩
    else .ok (.nx ())) v384 ()) fun s383 =>
    .ok (.nx ⟨strengths, j375, ring⟩)) lengths
def f_Beads___init___v1 (strengths : (List Int)) (lengths : (List Int)) (ring : Bool) : M BV := fnI (c_Beads___init___v1 strengths lengths ring)
def c_replaced (beads : BV) (changes : (List (Int × Int × Int))) : M (Out Unit Empty BV) := sq (forM (fun (x387 : (Int × Int × Int)) (s386 : List Int) =>
    mb (setM s386 x387.1 x387.2.2) fun strengths388 =>
    .ok (.nx strengths388)) changes beads.strengths) fun s389 =>
    mb (f_Beads___init___v1 s389 beads.lengths beads.ring) fun v390 => .ok (.rt v390)
def f_replaced (beads : BV) (changes : (List (Int × Int × Int))) : M BV := fnV .no (c_replaced beads changes)
def c_wake (beads : BV) (handful : (List Int)) : M (Out Unit Empty BV) := mb (mb (f_changes_of beads handful) fun v392 => f_replaced beads v392) fun v393 => .ok (.rt v393)
def f_wake (beads : BV) (handful : (List Int)) : M BV := fnV .no (c_wake beads handful)
def c_woken_once (lengths : (List Int)) (order : (List Int)) (ring : Bool) : M (Out Unit Empty BV) := mb (f_check_order order (lengths.length : Int)) fun v403 => mb (mb (repM [lengths.sum] (lengths.length : Int)) fun v397 => f_Beads___init__ v397 lengths ring) fun beads398 =>
    sq (forM (fun (place400 : Int) (s399 : BV) =>
    mb (f_wake s399 [place400]) fun beads401 =>
    .ok (.nx beads401)) order beads398) fun s402 =>
    .ok (.rt s402)
def f_woken_once (lengths : (List Int)) (order : (List Int)) (ring : Bool) : M BV := fnV .no (c_woken_once lengths order ring)
def c__law_is_integer (actual : Int) : M (Out Unit Empty Bool) := .ok (.rt (true && (!false)))
def f__law_is_integer (actual : Int) : M Bool := fnV .no (c__law_is_integer actual)
def c__law_numbers (actual : (List Int)) (due : (List Int)) (as_tuple : Bool) : M (Out Unit Empty Bool) := if ((as_tuple && (!true)) || ((!as_tuple) && (!false))) = true then .ok (.rt false)
    else if (!decide ((actual.length : Int) = (due.length : Int))) = true then .ok (.rt false)
    else mb (rngM 0 (due.length : Int)) fun v424 => sq (forM (fun (k416 : Int) (s415 : Unit) =>
    mb (mb (mb (mb (ixM actual k416) fun v417 => f__law_is_integer v417) fun v418 => (.ok (!v418))) fun v421 => if v421 = true then .ok true else mb (ixM actual k416) fun v419 => mb (ixM due k416) fun v420 => (.ok (!decide (v419 = v420)))) fun v422 => if v422 = true then .ok (.rt false)
    else .ok (.nx ())) v424 ()) fun s423 =>
    .ok (.rt true)
def f__law_numbers (actual : (List Int)) (due : (List Int)) (as_tuple : Bool) : M Bool := fnV .no (c__law_numbers actual due as_tuple)
def c__law_is_standing (actual : BV) (round_flag : Bool) (sizes : (List Int)) (strengths : (List Int)) : M (Out Unit Empty Bool) := if ((!true) || ((!true) || (!decide (actual.ring = round_flag)))) = true then .ok (.rt false)
    else mb (mb (f__law_numbers actual.lengths sizes true) fun v426 => if v426 = true then f__law_numbers actual.strengths strengths true else .ok false) fun v427 => .ok (.rt v427)
def f__law_is_standing (actual : BV) (round_flag : Bool) (sizes : (List Int)) (strengths : (List Int)) : M Bool := fnV .no (c__law_is_standing actual round_flag sizes strengths)
def c_Beads_total (self : BV) : M (Out Unit Empty Int) := .ok (.rt self.lengths.sum)
def f_Beads_total (self : BV) : M Int := fnV .no (c_Beads_total self)
def c_Beads_greatest (self : BV) : M (Out Unit Empty Int) := mb (maxI self.strengths) fun v430 => .ok (.rt v430)
def f_Beads_greatest (self : BV) : M Int := fnV .no (c_Beads_greatest self)
def c__law_numbers_v1 (actual : (List Int)) (due : (List Int)) (as_tuple : Bool) : M (Out Unit Empty Bool) := if ((as_tuple && (!false)) || ((!as_tuple) && (!true))) = true then .ok (.rt false)
    else if (!decide ((actual.length : Int) = (due.length : Int))) = true then .ok (.rt false)
    else mb (rngM 0 (due.length : Int)) fun v452 => sq (forM (fun (k444 : Int) (s443 : Unit) =>
    mb (mb (mb (mb (ixM actual k444) fun v445 => f__law_is_integer v445) fun v446 => (.ok (!v446))) fun v449 => if v449 = true then .ok true else mb (ixM actual k444) fun v447 => mb (ixM due k444) fun v448 => (.ok (!decide (v447 = v448)))) fun v450 => if v450 = true then .ok (.rt false)
    else .ok (.nx ())) v452 ()) fun s451 =>
    .ok (.rt true)
def f__law_numbers_v1 (actual : (List Int)) (due : (List Int)) (as_tuple : Bool) : M Bool := fnV .no (c__law_numbers_v1 actual due as_tuple)
def c_check_ring (beads : BV) : M (Out Unit Empty Unit) := if (!beads.ring) = true then .er ⟨"WrongKind", [("ring", eB false)]⟩
    else .ok (.nx ())
def f_check_ring (beads : BV) : M Unit := fnV (.ok ()) (c_check_ring beads)
def c_check_tall (beads : BV) : M (Out Unit Empty Unit) := mb (f_check_ring beads) fun v466 => mb (mb (f_Beads_greatest beads) fun v461 => mb (f_Beads_total beads) fun v462 => (.ok (decide (v461 < v462)))) fun v465 => if v465 = true then mb (f_Beads_greatest beads) fun v463 => mb (f_Beads_total beads) fun v464 => .er ⟨"NotTall", [("total", eI v464), ("greatest", eI v463)]⟩
    else .ok (.nx ())
def f_check_tall (beads : BV) : M Unit := fnV (.ok ()) (c_check_tall beads)
def c_can_lead (beads : BV) : M (Out Unit Empty (List Int)) := mb (f_check_tall beads) fun v479 => mb (f_Beads_total beads) fun total473 =>
    mb (mb (rngM 0 (beads.strengths.length : Int)) fun v477 => lcM (fun place474 => mb (ixM beads.strengths place474) fun v476 => (.ok (decide (total473 ≤ v476)))) (fun place474 => (.ok place474)) v477) fun v478 => .ok (.rt v478)
def f_can_lead (beads : BV) : M (List Int) := fnV .no (c_can_lead beads)
def c_strongest_of (beads : BV) : M (Out Unit Empty (List Int)) := mb (f_Beads_greatest beads) fun greatest487 =>
    mb (mb (rngM 0 (beads.strengths.length : Int)) fun v491 => lcM (fun place488 => mb (ixM beads.strengths place488) fun v490 => (.ok (decide (v490 = greatest487)))) (fun place488 => (.ok place488)) v491) fun v492 => .ok (.rt v492)
def f_strongest_of (beads : BV) : M (List Int) := fnV .no (c_strongest_of beads)
def c_sums_before (lengths : (List Int)) : M (Out Unit Empty (List Int)) := sq (forM (fun (length512 : Int) (s511 : List Int) =>
    mb (mb (ixM s511 (-1)) fun v513 => (.ok (v513 + length512))) fun v515 => mb (app s511 v515) fun sums514 =>
    .ok (.nx sums514)) lengths [0]) fun s516 =>
    .ok (.rt s516)
def f_sums_before (lengths : (List Int)) : M (List Int) := fnV .no (c_sums_before lengths)
def c_arc_sums (lengths : (List Int)) (heads : (List Int)) : M (Out Unit Empty (List Int)) := mb (f_sums_before lengths) fun sums531 =>
    mb (mapC (fun head532 => ixM sums531 head532) heads) fun before534 =>
    mb (mb (mb (mb (ixM sums531 (-1)) fun v535 => mb (ixM before534 0) fun v536 => (.ok (v535 + v536))) fun v537 => (.ok [v537])) fun v538 => catM (cut before534 (some 1) none) v538) fun after539 =>
    mb (mb (rngM 0 (heads.length : Int)) fun v544 => mapC (fun k540 => mb (ixM after539 k540) fun v542 => mb (ixM before534 k540) fun v543 => (.ok (v542 - v543))) v544) fun v545 => .ok (.rt v545)
def f_arc_sums (lengths : (List Int)) (heads : (List Int)) : M (List Int) := fnV .no (c_arc_sums lengths heads)
def c_is_cutting (beads : BV) (heads : (List Int)) : M (Out Unit Empty Bool) := mb (if (decide (heads = ([] : List Int))) = true then .ok true else mb (mb (ixM heads 0) fun v551 => (.ok (decide (v551 < 0)))) fun v553 => if v553 = true then .ok true else mb (ixM heads (-1)) fun v552 => (.ok (decide ((beads.lengths.length : Int) ≤ v552)))) fun v565 => if v565 = true then .ok (.rt false)
    else mb (rngM 1 (heads.length : Int)) fun v564 => sq (forM (fun (k555 : Int) (s554 : Unit) =>
    mb (mb (ixM heads k555) fun v556 => mb (ixM heads (k555 - 1)) fun v557 => (.ok (decide (v556 ≤ v557)))) fun v558 => if v558 = true then .ok (.rt false)
    else .ok (.nx ())) v564 ()) fun s559 =>
    mb (f_arc_sums beads.lengths heads) fun sums560 =>
    mb (mb (minI sums560) fun v561 => mb (maxI sums560) fun v562 => (.ok (decide (v561 = v562)))) fun v563 => .ok (.rt v563)
def f_is_cutting (beads : BV) (heads : (List Int)) : M Bool := fnV .no (c_is_cutting beads heads)
def c_settled_cut (beads : BV) : M (Out Unit Empty (Option (List Int))) := mb (f_check_ring beads) fun v578 => mb (f_strongest_of beads) fun heads572 =>
    mb (mb (f_is_cutting beads heads572) fun v576 => if v576 = true then mb (f_Beads_total beads) fun v574 => mb (mb (f_Beads_greatest beads) fun v573 => mulM v573 (heads572.length : Int)) fun v575 => (.ok (decide (v574 = v575))) else .ok false) fun v577 => if v577 = true then .ok (.rt (some heads572))
    else .ok (.rt (none : Option (List Int)))
def f_settled_cut (beads : BV) : M (Option (List Int)) := fnV (.ok none) (c_settled_cut beads)
def c__law_numbers_v2 (actual : (Option (List Int))) (due : (List Int)) (as_tuple : Bool) : M (Out Unit Empty Bool) := if ((as_tuple && (!(if actual.isSome = true then true else false))) || ((!as_tuple) && (!(if actual.isSome = true then false else false)))) = true then .ok (.rt false)
    else mb (mb (mb (unO actual) fun v594 => (.ok (v594.length : Int))) fun v595 => (.ok (!decide (v595 = (due.length : Int))))) fun v608 => if v608 = true then .ok (.rt false)
    else mb (rngM 0 (due.length : Int)) fun v607 => sq (forM (fun (k597 : Int) (s596 : Unit) =>
    mb (mb (mb (mb (mb (unO actual) fun v598 => ixM v598 k597) fun v599 => f__law_is_integer v599) fun v600 => (.ok (!v600))) fun v604 => if v604 = true then .ok true else mb (mb (unO actual) fun v601 => ixM v601 k597) fun v602 => mb (ixM due k597) fun v603 => (.ok (!decide (v602 = v603)))) fun v605 => if v605 = true then .ok (.rt false)
    else .ok (.nx ())) v607 ()) fun s606 =>
    .ok (.rt true)
def f__law_numbers_v2 (actual : (Option (List Int))) (due : (List Int)) (as_tuple : Bool) : M Bool := fnV .no (c__law_numbers_v2 actual due as_tuple)
def c__law_alone (beads : BV) (sizes : (List Int)) (strengths : (List Int)) (last : Int) : M (Out Unit Empty Bool) := mb (f_can_lead beads) fun told616 =>
    mb (mb (mb (f__law_numbers_v1 told616 [last] false) fun v617 => (.ok (!v617))) fun v620 => if v620 = true then .ok true else mb (mb (f_settled_cut beads) fun v618 => f__law_numbers_v2 v618 [last] true) fun v619 => (.ok (!v619))) fun v625 => if v625 = true then .ok (.rt false)
    else mb (app told616 last) fun told621 =>
    mb (mb (mb (f_can_lead beads) fun v622 => f__law_numbers_v1 v622 [last] false) fun v623 => if v623 = true then f__law_is_standing beads true sizes strengths else .ok false) fun v624 => .ok (.rt v624)
def f__law_alone (beads : BV) (sizes : (List Int)) (strengths : (List Int)) (last : Int) : M Bool := fnV .no (c__law_alone beads sizes strengths last)
def c__law_handfuls (cell : Int) (size : Int) (many : Int) : M (Out Unit Empty (List (List Int))) := mb (mb (mb (mulM 20 many) fun v644 => repM [size] v644) fun v645 => f__law_draws cell v645) fun draws646 =>
    mb (mb (rngM 0 20) fun v655 => mapC (fun k647 => mb (mb (mb (mulM many k647) fun v649 => (.ok (some v649))) fun v652 => mb (mb (mb (mulM many k647) fun v650 => (.ok (v650 + many))) fun v651 => (.ok (some v651))) fun v653 => (.ok (cut draws646 v652 v653))) fun v654 => sortSet v654) v655) fun v656 => .ok (.rt v656)
def f__law_handfuls (cell : Int) (size : Int) (many : Int) : M (List (List Int)) := fnV .no (c__law_handfuls cell size many)
def c__law_restless (round_flag : Bool) (sizes : (List Int)) (strengths : (List Int)) : M (Out Unit Empty (List Int)) := mb (mb (rngM 0 (sizes.length : Int)) fun v675 => lcM (fun k671 => mb (f__law_reach round_flag sizes strengths k671) fun v673 => mb (ixM strengths k671) fun v674 => (.ok (!decide (v673 = v674)))) (fun k671 => (.ok k671)) v675) fun v676 => .ok (.rt v676)
def f__law_restless (round_flag : Bool) (sizes : (List Int)) (strengths : (List Int)) : M (List Int) := fnV .no (c__law_restless round_flag sizes strengths)
def c__law_woken (round_flag : Bool) (sizes : (List Int)) (strengths : (List Int)) (places : (List Int)) : M (Out Unit Empty (List Int)) := sq (forM (fun (place695 : Int) (s694 : List Int) =>
    mb (f__law_reach round_flag sizes strengths place695) fun v697 => mb (setM s694 place695 v697) fun after696 =>
    .ok (.nx after696)) places strengths) fun s698 =>
    .ok (.rt s698)
def f__law_woken (round_flag : Bool) (sizes : (List Int)) (strengths : (List Int)) (places : (List Int)) : M (List Int) := fnV .no (c__law_woken round_flag sizes strengths places)
def c__law_order (cell : Int) (round_flag : Bool) (sizes : (List Int)) (strengths : (List Int)) (many : Int) : M (Out Unit Empty (List (List Int))) := mb (mb (mb (mulM 60 many) fun v726 => repM [5040] v726) fun v727 => f__law_draws cell v727) fun draws728 =>
    mb (rngM 0 60) fun v747 => sq (forM (fun (step732 : Int) (s731 : List Int × List (List Int)) =>
    mb (f__law_restless round_flag sizes s731.1) fun restless_v733 =>
    if (decide (restless_v733 = ([] : List Int))) = true then .ok (.bk (s731.1, s731.2))
    else mb (mb (rngM 0 many) fun v740 => mapC (fun k734 => mb (mb (mb (mb (mulM step732 many) fun v736 => (.ok (v736 + k734))) fun v737 => ixM draws728 v737) fun v738 => modM v738 (restless_v733.length : Int)) fun v739 => ixM restless_v733 v739) v740) fun picks741 =>
    mb (sortSet picks741) fun v745 => mb (app s731.2 v745) fun order742 =>
    mb (mb (ixM order742 (-1)) fun v743 => f__law_woken round_flag sizes s731.1 v743) fun now744 =>
    .ok (.nx (now744, order742))) v747 (strengths, ([] : List (List Int)))) fun s746 =>
    .ok (.rt s746.2)
def f__law_order (cell : Int) (round_flag : Bool) (sizes : (List Int)) (strengths : (List Int)) (many : Int) : M (List (List Int)) := fnV .no (c__law_order cell round_flag sizes strengths many)
def c__law_rested (sizes : (List Int)) (strengths : (List Int)) : M (Out Unit Empty (List Int)) := mb (rngM 0 400) fun v792 => sq (forM (fun (look781 : Int) (s780 : Int × List Int) =>
    mb (modM look781 (sizes.length : Int)) fun place782 =>
    mb (f__law_reach true sizes s780.2 place782) fun reach783 =>
    mb (mb (ixM s780.2 place782) fun v785 => (.ok (!decide (reach783 = v785)))) fun v790 => (fun j788 : Int =>
    mb (setM s780.2 place782 reach783) fun now789 =>
    if (decide (j788 = (sizes.length : Int))) = true then .ok (.rt now789)
    else .ok (.nx (j788, now789))) (if v790 = true then 0 else (s780.1 + 1))) v792 (0, strengths)) fun s791 =>
    .ok (.rt ([] : List Int))
def f__law_rested (sizes : (List Int)) (strengths : (List Int)) : M (List Int) := fnV .no (c__law_rested sizes strengths)
def c_reaches (beads : BV) : M (Out Unit Empty (List Int)) := mb (mb (mb (mb (f_Beads___len__ beads) lenO) fun v799 => rngM 0 v799) fun v802 => mapC (fun place800 => f_reach_of beads place800) v802) fun v803 => .ok (.rt v803)
def f_reaches (beads : BV) : M (List Int) := fnV .no (c_reaches beads)
def c_restless (beads : BV) : M (Out Unit Empty (List Int)) := mb (f_reaches beads) fun after811 =>
    mb (mb (mb (mb (f_Beads___len__ beads) lenO) fun v812 => rngM 0 v812) fun v817 => lcM (fun place813 => mb (ixM after811 place813) fun v815 => mb (ixM beads.strengths place813) fun v816 => (.ok (!decide (v815 = v816)))) (fun place813 => (.ok place813)) v817) fun v818 => .ok (.rt v818)
def f_restless (beads : BV) : M (List Int) := fnV .no (c_restless beads)
def c_lord_of (beads : BV) (place : Int) : M (Out Unit Empty (Option Int)) := mb (rngL 0 place) fun before838 =>
    sq (if beads.ring = true then mb (mb (mb (mb (f_Beads___len__ beads) lenO) fun v842 => rngL (place + 1) v842) fun v843 => catM v843 before838) fun before844 =>
    .ok (.nx before844) else .ok (.nx before838)) fun (j845 : List Int) =>
    sq (forM (fun (at847 : Int) (s846 : Unit) =>
    mb (mb (ixM beads.strengths at847) fun v848 => mb (ixM beads.strengths place) fun v849 => (.ok (decide (v849 < v848)))) fun v850 => if v850 = true then .ok (.rt (some at847))
    else .ok (.nx ())) j845.reverse ()) fun s851 =>
    .ok (.rt (none : Option Int))
def f_lord_of (beads : BV) (place : Int) : M (Option Int) := fnV (.ok none) (c_lord_of beads place)
def c_lords_of (beads : BV) : M (Out Unit Empty (List (Option Int))) := mb (mb (mb (mb (f_Beads___len__ beads) lenO) fun v853 => rngM 0 v853) fun v856 => mapC (fun place854 => f_lord_of beads place854) v856) fun v857 => .ok (.rt v857)
def f_lords_of (beads : BV) : M (List (Option Int)) := fnV .no (c_lords_of beads)
def c_leaders_of (beads : BV) : M (Out Unit Empty (List Int)) := mb (f_lords_of beads) fun lords864 =>
    mb (mb (mb (mb (f_Beads___len__ beads) lenO) fun v865 => rngM 0 v865) fun v869 => lcM (fun place866 => mb (ixM lords864 place866) fun v868 => (.ok v868.isNone)) (fun place866 => (.ok place866)) v869) fun v870 => .ok (.rt v870)
def f_leaders_of (beads : BV) : M (List Int) := fnV .no (c_leaders_of beads)
def c_resting_cut (beads : BV) : M (Out Unit Empty (List Int)) := mb (f_check_ring beads) fun v875 => mb (f_restless beads) fun places872 =>
    if (!decide (places872 = ([] : List Int))) = true then mb (ixM places872 0) fun v873 => .er ⟨"NotAtRest", [("place", eI v873)]⟩
    else mb (f_leaders_of beads) fun v874 => .ok (.rt v874)
def f_resting_cut (beads : BV) : M (List Int) := fnV .no (c_resting_cut beads)
def c__law_kept (sizes : (List Int)) (strengths : (List Int)) (order : (List (List Int))) (last : Int) : M (Out Unit Empty Bool) := sq (forM (fun (handful880 : (List Int)) (s879 : List Int) =>
    mb (f__law_woken true sizes s879 handful880) fun now881 =>
    mb (mb (mb (f_Beads___init__ now881 sizes true) fun v882 => f__law_alone v882 sizes now881 last) fun v883 => (.ok (!v883))) fun v884 => if v884 = true then .ok (.rt false)
    else .ok (.nx now881)) order strengths) fun s885 =>
    mb (f__law_rested sizes s885) fun end886 =>
    if (decide (end886 = ([] : List Int))) = true then .ok (.rt true)
    else mb (f_Beads___init__ end886 sizes true) fun beads887 =>
    mb (mb (mb (f_resting_cut beads887) fun v888 => f__law_numbers v888 [last] true) fun v889 => if v889 = true then f__law_alone beads887 sizes end886 last else .ok false) fun v890 => .ok (.rt v890)
def f__law_kept (sizes : (List Int)) (strengths : (List Int)) (order : (List (List Int))) (last : Int) : M Bool := fnV .no (c__law_kept sizes strengths order last)
def c_check_order_v1 (order : (List Int)) (size : Int) : M (Out Unit Empty Unit) := mb (repM [false] size) fun named899 =>
    sq (forM (fun (x901 : (Int × Int)) (s900 : List Bool) =>
    mb (if (decide (x901.2 < 0)) = true then .ok true else if (decide (size ≤ x901.2)) = true then .ok true else ixM s900 x901.2) fun v903 => if v903 = true then .er ⟨"BadOrder", [("index", eI x901.1)]⟩
    else mb (setM s900 x901.2 true) fun named902 =>
    .ok (.nx named902)) (enm order) named899) fun s904 =>
    if (decide ((order.length : Int) < size)) = true then .er ⟨"BadOrder", [("index", eI (order.length : Int))]⟩
    else .ok (.nx ())
def f_check_order_v1 (order : (List Int)) (size : Int) : M Unit := fnV (.ok ()) (c_check_order_v1 order size)
def c_woken_once_v1 (lengths : (List Int)) (order : (List Int)) (ring : Bool) : M (Out Unit Empty BV) := mb (f_check_order_v1 order (lengths.length : Int)) fun v918 => mb (mb (repM [lengths.sum] (lengths.length : Int)) fun v912 => f_Beads___init___v1 v912 lengths ring) fun beads913 =>
    sq (forM (fun (place915 : Int) (s914 : BV) =>
    mb (f_wake s914 [place915]) fun beads916 =>
    .ok (.nx beads916)) order beads913) fun s917 =>
    .ok (.rt s917)
def f_woken_once_v1 (lengths : (List Int)) (order : (List Int)) (ring : Bool) : M BV := fnV .no (c_woken_once_v1 lengths order ring)
def c_law (script : (List Int)) : M (Out Unit Empty Bool) := mb (mb (f__law_cell script 0) fun v926 => f__law_draws v926 [8, 7, 9, 3, 2]) fun draws927 =>
    mb (mb (ixM draws927 2) fun v928 => (.ok (1 + v928))) fun many929 =>
    mb (mb (ixM draws927 0) fun v930 => (.ok (decide (v930 = 3)))) fun v976 => sq (if v976 = true then mb (mb (ixM draws927 1) fun v933 => (.ok (10 + v933))) fun many934 =>
    .ok (.nx many934) else .ok (.nx many929)) fun (j935 : Int) =>
    mb (mb (f__law_cell script 1) fun v936 => f__law_lengths v936 j935) fun sizes937 =>
    mb (mb (mb (f__law_cell script 2) fun v938 => (.ok (v938 + 11))) fun v939 => f__law_shuffled v939 j935) fun places940 =>
    mb (f__law_left true sizes937 places940) fun due941 =>
    mb (f_woken_once sizes937 places940 true) fun beads945 =>
    mb (mb (mb (f__law_is_standing beads945 true sizes937 due941) fun v946 => (.ok (!v946))) fun v947 => (.ok (v947 || ((!decide (sizes937 = sizes937)) || (!decide (places940 = places940)))))) fun v975 => if v975 = true then .ok (.rt false)
    else mb (mb (mb (mb (f_Beads_total beads945) fun v948 => mb (f_Beads_greatest beads945) fun v949 => (.ok [v948, v949])) fun v950 => f__law_numbers_v1 v950 [sizes937.sum, sizes937.sum] false) fun v951 => (.ok (!v951))) fun v974 => if v974 = true then .ok (.rt false)
    else mb (mb (mb (ixM places940 (-1)) fun v952 => f__law_alone beads945 sizes937 due941 v952) fun v953 => (.ok (!v953))) fun v973 => if v973 = true then .ok (.rt false)
    else mb (mb (ixM draws927 3) fun v954 => ixM [1, 2, j935] v954) fun most955 =>
    mb (mb (mb (ixM draws927 4) fun v956 => (.ok (decide (v956 = 0)))) fun v957 => (.ok (v957 || (decide (9 < j935))))) fun v972 => sq (if v972 = true then mb (mb (f__law_cell script 3) fun v962 => f__law_handfuls v962 j935 most955) fun order963 =>
    .ok (.nx order963) else mb (mb (f__law_cell script 3) fun v964 => f__law_order v964 true sizes937 due941 most955) fun order965 =>
    .ok (.nx order965)) fun (j966 : List (List Int)) =>
    mb (mb (mb (ixM places940 (-1)) fun v967 => f__law_kept sizes937 due941 j966 v967) fun v968 => (.ok (!v968))) fun v971 => if v971 = true then .ok (.rt false)
    else mb (mb (f_woken_once_v1 sizes937 places940 true) fun v969 => f__law_is_standing v969 true sizes937 due941) fun v970 => .ok (.rt v970)
def f_law (script : (List Int)) : M Bool := fnV .no (c_law script)
/-! ### what the top has written -/
structure Tx (K : PySem.W.Frag) (mg : Str → Option Value) (ca : Str → Addr) (fa : Nat → Addr) (fd : Nat → FuncData) : Prop where
  F__law_cell : Fun K "_law_cell" "_law_cell" s__law_cell (fa 0) (fd 0)
  b__law_cell : Binds K (fd 0) ["script", "k"] []
  g__law_cell : mg "_law_cell" = some (.ref (fa 0))
  k__law_cell : PySem.W.keepIn K (.ref (fa 0)) = true
  F__law_draws : Fun K "_law_draws" "_law_draws" s__law_draws (fa 1) (fd 1)
  b__law_draws : Binds K (fd 1) ["cell", "sizes"] []
  g__law_draws : mg "_law_draws" = some (.ref (fa 1))
  k__law_draws : PySem.W.keepIn K (.ref (fa 1)) = true
  F__law_lengths : Fun K "_law_lengths" "_law_lengths" s__law_lengths (fa 2) (fd 2)
  b__law_lengths : Binds K (fd 2) ["cell", "many"] []
  g__law_lengths : mg "_law_lengths" = some (.ref (fa 2))
  k__law_lengths : PySem.W.keepIn K (.ref (fa 2)) = true
  F__law_shuffled : Fun K "_law_shuffled" "_law_shuffled" s__law_shuffled (fa 3) (fd 3)
  b__law_shuffled : Binds K (fd 3) ["cell", "many"] []
  g__law_shuffled : mg "_law_shuffled" = some (.ref (fa 3))
  k__law_shuffled : PySem.W.keepIn K (.ref (fa 3)) = true
  F__law_reach : Fun K "_law_reach" "_law_reach" s__law_reach (fa 4) (fd 4)
  b__law_reach : Binds K (fd 4) ["round_flag", "sizes", "strengths", "place"] []
  g__law_reach : mg "_law_reach" = some (.ref (fa 4))
  k__law_reach : PySem.W.keepIn K (.ref (fa 4)) = true
  F__law_left : Fun K "_law_left" "_law_left" s__law_left (fa 5) (fd 5)
  b__law_left : Binds K (fd 5) ["round_flag", "sizes", "places"] []
  g__law_left : mg "_law_left" = some (.ref (fa 5))
  k__law_left : PySem.W.keepIn K (.ref (fa 5)) = true
  F_check_order : Fun K "check_order" "check_order" s_check_order (fa 6) (fd 6)
  b_check_order : Binds K (fd 6) ["order", "size"] []
  g_check_order : mg "check_order" = some (.ref (fa 6))
  k_check_order : PySem.W.keepIn K (.ref (fa 6)) = true
  F_Beads___init__ : FunD K "__init__" "Beads.__init__" (defArgs s_Beads___init__) (defBody s_Beads___init__) (defScope s_Beads___init__) [.non] [("ring", .bl true)] (fa 7) (fd 7)
  F_Beads___len__ : Fun K "__len__" "Beads.__len__" s_Beads___len__ (fa 8) (fd 8)
  b_Beads___len__ : Binds K (fd 8) ["self"] []
  F_check_place : Fun K "check_place" "check_place" s_check_place (fa 9) (fd 9)
  b_check_place : Binds K (fd 9) ["place", "size"] []
  g_check_place : mg "check_place" = some (.ref (fa 9))
  k_check_place : PySem.W.keepIn K (.ref (fa 9)) = true
  F_distinct : Fun K "distinct" "distinct" s_distinct (fa 10) (fd 10)
  b_distinct : Binds K (fd 10) ["handful", "size"] []
  g_distinct : mg "distinct" = some (.ref (fa 10))
  k_distinct : PySem.W.keepIn K (.ref (fa 10)) = true
  F_run_of : Fun K "run_of" "run_of" s_run_of (fa 11) (fd 11)
  b_run_of : Binds K (fd 11) ["beads", "place"] []
  g_run_of : mg "run_of" = some (.ref (fa 11))
  k_run_of : PySem.W.keepIn K (.ref (fa 11)) = true
  F_train_of : Fun K "train_of" "train_of" s_train_of (fa 12) (fd 12)
  b_train_of : Binds K (fd 12) ["beads", "place"] []
  g_train_of : mg "train_of" = some (.ref (fa 12))
  k_train_of : PySem.W.keepIn K (.ref (fa 12)) = true
  F_reach_of : Fun K "reach_of" "reach_of" s_reach_of (fa 13) (fd 13)
  b_reach_of : Binds K (fd 13) ["beads", "place"] []
  g_reach_of : mg "reach_of" = some (.ref (fa 13))
  k_reach_of : PySem.W.keepIn K (.ref (fa 13)) = true
  F_changes_of : Fun K "changes_of" "changes_of" s_changes_of (fa 14) (fd 14)
  b_changes_of : Binds K (fd 14) ["beads", "handful"] []
  g_changes_of : mg "changes_of" = some (.ref (fa 14))
  k_changes_of : PySem.W.keepIn K (.ref (fa 14)) = true
  F_replaced : Fun K "replaced" "replaced" s_replaced (fa 15) (fd 15)
  b_replaced : Binds K (fd 15) ["beads", "changes"] []
  g_replaced : mg "replaced" = some (.ref (fa 15))
  k_replaced : PySem.W.keepIn K (.ref (fa 15)) = true
  F_wake : Fun K "wake" "wake" s_wake (fa 16) (fd 16)
  b_wake : Binds K (fd 16) ["beads", "handful"] []
  g_wake : mg "wake" = some (.ref (fa 16))
  k_wake : PySem.W.keepIn K (.ref (fa 16)) = true
  F_woken_once : FunD K "woken_once" "woken_once" (defArgs s_woken_once) (defBody s_woken_once) (defScope s_woken_once) [] [("ring", .bl false)] (fa 17) (fd 17)
  g_woken_once : mg "woken_once" = some (.ref (fa 17))
  k_woken_once : PySem.W.keepIn K (.ref (fa 17)) = true
  F__law_is_integer : Fun K "_law_is_integer" "_law_is_integer" s__law_is_integer (fa 18) (fd 18)
  b__law_is_integer : Binds K (fd 18) ["actual"] []
  g__law_is_integer : mg "_law_is_integer" = some (.ref (fa 18))
  k__law_is_integer : PySem.W.keepIn K (.ref (fa 18)) = true
  F__law_numbers : Fun K "_law_numbers" "_law_numbers" s__law_numbers (fa 19) (fd 19)
  b__law_numbers : Binds K (fd 19) ["actual", "due", "as_tuple"] []
  g__law_numbers : mg "_law_numbers" = some (.ref (fa 19))
  k__law_numbers : PySem.W.keepIn K (.ref (fa 19)) = true
  F__law_is_standing : Fun K "_law_is_standing" "_law_is_standing" s__law_is_standing (fa 20) (fd 20)
  b__law_is_standing : Binds K (fd 20) ["actual", "round_flag", "sizes", "strengths"] []
  g__law_is_standing : mg "_law_is_standing" = some (.ref (fa 20))
  k__law_is_standing : PySem.W.keepIn K (.ref (fa 20)) = true
  F_Beads_total : Fun K "total" "Beads.total" s_Beads_total (fa 21) (fd 21)
  b_Beads_total : Binds K (fd 21) ["self"] []
  F_Beads_greatest : Fun K "greatest" "Beads.greatest" s_Beads_greatest (fa 22) (fd 22)
  b_Beads_greatest : Binds K (fd 22) ["self"] []
  F_check_ring : Fun K "check_ring" "check_ring" s_check_ring (fa 23) (fd 23)
  b_check_ring : Binds K (fd 23) ["beads"] []
  g_check_ring : mg "check_ring" = some (.ref (fa 23))
  k_check_ring : PySem.W.keepIn K (.ref (fa 23)) = true
  F_check_tall : Fun K "check_tall" "check_tall" s_check_tall (fa 24) (fd 24)
  b_check_tall : Binds K (fd 24) ["beads"] []
  g_check_tall : mg "check_tall" = some (.ref (fa 24))
  k_check_tall : PySem.W.keepIn K (.ref (fa 24)) = true
  F_can_lead : Fun K "can_lead" "can_lead" s_can_lead (fa 25) (fd 25)
  b_can_lead : Binds K (fd 25) ["beads"] []
  g_can_lead : mg "can_lead" = some (.ref (fa 25))
  k_can_lead : PySem.W.keepIn K (.ref (fa 25)) = true
  F_strongest_of : Fun K "strongest_of" "strongest_of" s_strongest_of (fa 26) (fd 26)
  b_strongest_of : Binds K (fd 26) ["beads"] []
  g_strongest_of : mg "strongest_of" = some (.ref (fa 26))
  k_strongest_of : PySem.W.keepIn K (.ref (fa 26)) = true
  F_sums_before : Fun K "sums_before" "sums_before" s_sums_before (fa 27) (fd 27)
  b_sums_before : Binds K (fd 27) ["lengths"] []
  g_sums_before : mg "sums_before" = some (.ref (fa 27))
  k_sums_before : PySem.W.keepIn K (.ref (fa 27)) = true
  F_arc_sums : Fun K "arc_sums" "arc_sums" s_arc_sums (fa 28) (fd 28)
  b_arc_sums : Binds K (fd 28) ["lengths", "heads"] []
  g_arc_sums : mg "arc_sums" = some (.ref (fa 28))
  k_arc_sums : PySem.W.keepIn K (.ref (fa 28)) = true
  F_is_cutting : Fun K "is_cutting" "is_cutting" s_is_cutting (fa 29) (fd 29)
  b_is_cutting : Binds K (fd 29) ["beads", "heads"] []
  g_is_cutting : mg "is_cutting" = some (.ref (fa 29))
  k_is_cutting : PySem.W.keepIn K (.ref (fa 29)) = true
  F_settled_cut : Fun K "settled_cut" "settled_cut" s_settled_cut (fa 30) (fd 30)
  b_settled_cut : Binds K (fd 30) ["beads"] []
  g_settled_cut : mg "settled_cut" = some (.ref (fa 30))
  k_settled_cut : PySem.W.keepIn K (.ref (fa 30)) = true
  F__law_alone : Fun K "_law_alone" "_law_alone" s__law_alone (fa 31) (fd 31)
  b__law_alone : Binds K (fd 31) ["beads", "sizes", "strengths", "last"] []
  g__law_alone : mg "_law_alone" = some (.ref (fa 31))
  k__law_alone : PySem.W.keepIn K (.ref (fa 31)) = true
  F__law_handfuls : Fun K "_law_handfuls" "_law_handfuls" s__law_handfuls (fa 32) (fd 32)
  b__law_handfuls : Binds K (fd 32) ["cell", "size", "many"] []
  g__law_handfuls : mg "_law_handfuls" = some (.ref (fa 32))
  k__law_handfuls : PySem.W.keepIn K (.ref (fa 32)) = true
  F__law_restless : Fun K "_law_restless" "_law_restless" s__law_restless (fa 33) (fd 33)
  b__law_restless : Binds K (fd 33) ["round_flag", "sizes", "strengths"] []
  g__law_restless : mg "_law_restless" = some (.ref (fa 33))
  k__law_restless : PySem.W.keepIn K (.ref (fa 33)) = true
  F__law_woken : Fun K "_law_woken" "_law_woken" s__law_woken (fa 34) (fd 34)
  b__law_woken : Binds K (fd 34) ["round_flag", "sizes", "strengths", "places"] []
  g__law_woken : mg "_law_woken" = some (.ref (fa 34))
  k__law_woken : PySem.W.keepIn K (.ref (fa 34)) = true
  F__law_order : Fun K "_law_order" "_law_order" s__law_order (fa 35) (fd 35)
  b__law_order : Binds K (fd 35) ["cell", "round_flag", "sizes", "strengths", "many"] []
  g__law_order : mg "_law_order" = some (.ref (fa 35))
  k__law_order : PySem.W.keepIn K (.ref (fa 35)) = true
  F__law_rested : Fun K "_law_rested" "_law_rested" s__law_rested (fa 36) (fd 36)
  b__law_rested : Binds K (fd 36) ["sizes", "strengths"] []
  g__law_rested : mg "_law_rested" = some (.ref (fa 36))
  k__law_rested : PySem.W.keepIn K (.ref (fa 36)) = true
  F_reaches : Fun K "reaches" "reaches" s_reaches (fa 37) (fd 37)
  b_reaches : Binds K (fd 37) ["beads"] []
  g_reaches : mg "reaches" = some (.ref (fa 37))
  k_reaches : PySem.W.keepIn K (.ref (fa 37)) = true
  F_restless : Fun K "restless" "restless" s_restless (fa 38) (fd 38)
  b_restless : Binds K (fd 38) ["beads"] []
  g_restless : mg "restless" = some (.ref (fa 38))
  k_restless : PySem.W.keepIn K (.ref (fa 38)) = true
  F_lord_of : Fun K "lord_of" "lord_of" s_lord_of (fa 39) (fd 39)
  b_lord_of : Binds K (fd 39) ["beads", "place"] []
  g_lord_of : mg "lord_of" = some (.ref (fa 39))
  k_lord_of : PySem.W.keepIn K (.ref (fa 39)) = true
  F_lords_of : Fun K "lords_of" "lords_of" s_lords_of (fa 40) (fd 40)
  b_lords_of : Binds K (fd 40) ["beads"] []
  g_lords_of : mg "lords_of" = some (.ref (fa 40))
  k_lords_of : PySem.W.keepIn K (.ref (fa 40)) = true
  F_leaders_of : Fun K "leaders_of" "leaders_of" s_leaders_of (fa 41) (fd 41)
  b_leaders_of : Binds K (fd 41) ["beads"] []
  g_leaders_of : mg "leaders_of" = some (.ref (fa 41))
  k_leaders_of : PySem.W.keepIn K (.ref (fa 41)) = true
  F_resting_cut : Fun K "resting_cut" "resting_cut" s_resting_cut (fa 42) (fd 42)
  b_resting_cut : Binds K (fd 42) ["beads"] []
  g_resting_cut : mg "resting_cut" = some (.ref (fa 42))
  k_resting_cut : PySem.W.keepIn K (.ref (fa 42)) = true
  F__law_kept : Fun K "_law_kept" "_law_kept" s__law_kept (fa 43) (fd 43)
  b__law_kept : Binds K (fd 43) ["sizes", "strengths", "order", "last"] []
  g__law_kept : mg "_law_kept" = some (.ref (fa 43))
  k__law_kept : PySem.W.keepIn K (.ref (fa 43)) = true
  F_law : Fun K "law" "law" s_law (fa 44) (fd 44)
  b_law : Binds K (fd 44) ["script"] []
  F_BadOrder___init__ : Fun K "__init__" "BadOrder.__init__" s_BadOrder___init__ (fa 45) (fd 45)
  b_BadOrder___init__ : Binds K (fd 45) ["self", "index"] []
  F_BadBeads___init__ : Fun K "__init__" "BadBeads.__init__" s_BadBeads___init__ (fa 46) (fd 46)
  b_BadBeads___init__ : Binds K (fd 46) ["self", "place"] []
  F_BadPlace___init__ : Fun K "__init__" "BadPlace.__init__" s_BadPlace___init__ (fa 47) (fd 47)
  b_BadPlace___init__ : Binds K (fd 47) ["self", "place"] []
  F_WrongKind___init__ : Fun K "__init__" "WrongKind.__init__" s_WrongKind___init__ (fa 48) (fd 48)
  b_WrongKind___init__ : Binds K (fd 48) ["self", "ring"] []
  F_NotTall___init__ : Fun K "__init__" "NotTall.__init__" s_NotTall___init__ (fa 49) (fd 49)
  b_NotTall___init__ : Binds K (fd 49) ["self", "greatest", "total"] []
  F_NotAtRest___init__ : Fun K "__init__" "NotAtRest.__init__" s_NotAtRest___init__ (fa 50) (fd 50)
  b_NotAtRest___init__ : Binds K (fd 50) ["self", "place"] []
  n_len : mg "len" = none
  n_int : mg "int" = none
  n_range : mg "range" = none
  n_sum : mg "sum" = none
  n_list : mg "list" = none
  n_enumerate : mg "enumerate" = none
  x_BadOrder : Xc K mg ca "BadOrder" (fa 45)
  xb_BadOrder : Binds K (fd 45) ["self", "index"] []
  xn_BadOrder_index : PySem.W.findIn K (.ref (ca "BadOrder")) "index" = some none
  n_tuple : mg "tuple" = none
  cl_Beads : Cls K (ca "Beads")
  na_Beads_strengths : NoAttr K (ca "Beads") "strengths"
  na_Beads_lengths : NoAttr K (ca "Beads") "lengths"
  na_Beads_ring : NoAttr K (ca "Beads") "ring"
  x_BadBeads : Xc K mg ca "BadBeads" (fa 46)
  xb_BadBeads : Binds K (fd 46) ["self", "place"] []
  xn_BadBeads_place : PySem.W.findIn K (.ref (ca "BadBeads")) "place" = some none
  mk_Beads : Mk K (ca "Beads") (fa 7)
  kb_Beads_3_ring : ∃ g, KBn K (fd 7) ["self", "strengths", "lengths", "ring"] 3 ["ring"] g (fun vs zs => vs ++ zs)
  m_Beads___len__ : Meth K (ca "Beads") "__len__" (fa 8)
  x_BadPlace : Xc K mg ca "BadPlace" (fa 47)
  xb_BadPlace : Binds K (fd 47) ["self", "place"] []
  xn_BadPlace_place : PySem.W.findIn K (.ref (ca "BadPlace")) "place" = some none
  n_sorted : mg "sorted" = none
  n_set : mg "set" = none
  kf_woken_once_2_ring : ∃ g, KBn K (fd 17) ["lengths", "order", "ring"] 2 ["ring"] g (fun vs zs => vs ++ zs)
  n_isinstance : mg "isinstance" = none
  is_Beads : IsC K (ca "Beads")
  n_bool : mg "bool" = none
  m_Beads_total : Meth K (ca "Beads") "total" (fa 21)
  n_max : mg "max" = none
  m_Beads_greatest : Meth K (ca "Beads") "greatest" (fa 22)
  x_WrongKind : Xc K mg ca "WrongKind" (fa 48)
  xb_WrongKind : Binds K (fd 48) ["self", "ring"] []
  xn_WrongKind_ring : PySem.W.findIn K (.ref (ca "WrongKind")) "ring" = some none
  x_NotTall : Xc K mg ca "NotTall" (fa 49)
  xb_NotTall : Binds K (fd 49) ["self", "greatest", "total"] []
  xn_NotTall_greatest : PySem.W.findIn K (.ref (ca "NotTall")) "greatest" = some none
  xn_NotTall_total : PySem.W.findIn K (.ref (ca "NotTall")) "total" = some none
  n_min : mg "min" = none
  kbd_Beads_3_1 : ∃ g, KBn K (fd 7) ["self", "strengths", "lengths", "ring"] 3 [] g (fun vs _ => vs ++ [.bl true])
  x_NotAtRest : Xc K mg ca "NotAtRest" (fa 50)
  xb_NotAtRest : Binds K (fd 50) ["self", "place"] []
  xn_NotAtRest_place : PySem.W.findIn K (.ref (ca "NotAtRest")) "place" = some none
  n_reversed : mg "reversed" = none
  g_Beads : mg "Beads" = some (.ref (ca "Beads"))
section
variable {P : Program} {w : World} {K : PySem.W.Frag} {mg : Str → Option Value} {base : Heap} {ca : Str → Addr} {fa : Nat → Addr} {fd : Nat → FuncData}
theorem okI_BadOrder (T : Tx K mg ca fa fd) : FnOk P w K mg base (L2N.CX P w) 1 (fa 45) (fd 45) ["self", "index"] (spI1 K (ca "BadOrder") "index") :=
  init1_ok T.x_BadOrder T.F_BadOrder___init__ rfl sc_BadOrder___init__ T.xn_BadOrder_index (.inl rfl) (.inl rfl) (by decide) (by decide) (fun env e => by obtain ⟨⟩ := env; cases e; rfl)
theorem okI_BadBeads (T : Tx K mg ca fa fd) : FnOk P w K mg base (L2N.CX P w) 1 (fa 46) (fd 46) ["self", "place"] (spI1 K (ca "BadBeads") "place") :=
  init1_ok T.x_BadBeads T.F_BadBeads___init__ rfl sc_BadBeads___init__ T.xn_BadBeads_place (.inl rfl) (.inl rfl) (by decide) (by decide) (fun env e => by obtain ⟨⟩ := env; cases e; rfl)
theorem okI_BadPlace (T : Tx K mg ca fa fd) : FnOk P w K mg base (L2N.CX P w) 1 (fa 47) (fd 47) ["self", "place"] (spI1 K (ca "BadPlace") "place") :=
  init1_ok T.x_BadPlace T.F_BadPlace___init__ rfl sc_BadPlace___init__ T.xn_BadPlace_place (.inl rfl) (.inl rfl) (by decide) (by decide) (fun env e => by obtain ⟨⟩ := env; cases e; rfl)
theorem okI_WrongKind (T : Tx K mg ca fa fd) : FnOk P w K mg base (L2N.CX P w) 1 (fa 48) (fd 48) ["self", "ring"] (spI1 K (ca "WrongKind") "ring") :=
  init1_ok T.x_WrongKind T.F_WrongKind___init__ rfl sc_WrongKind___init__ T.xn_WrongKind_ring (.inl rfl) (.inl rfl) (by decide) (by decide) (fun env e => by obtain ⟨⟩ := env; cases e; rfl)
theorem okI_NotTall (T : Tx K mg ca fa fd) : FnOk P w K mg base (L2N.CX P w) 1 (fa 49) (fd 49) ["self", "greatest", "total"] (spI2 K (ca "NotTall") "greatest" "total") :=
  init2_ok T.x_NotTall T.F_NotTall___init__ rfl sc_NotTall___init__ T.xn_NotTall_greatest T.xn_NotTall_total (.inl rfl) (.inl rfl) (.inl rfl) (by decide) (by decide) (by decide) (by decide) (fun env e => by obtain ⟨⟩ := env; cases e; rfl) (fun env e => by obtain ⟨⟩ := env; cases e; rfl)
theorem okI_NotAtRest (T : Tx K mg ca fa fd) : FnOk P w K mg base (L2N.CX P w) 1 (fa 50) (fd 50) ["self", "place"] (spI1 K (ca "NotAtRest") "place") :=
  init1_ok T.x_NotAtRest T.F_NotAtRest___init__ rfl sc_NotAtRest___init__ T.xn_NotAtRest_place (.inl rfl) (.inl rfl) (by decide) (by decide) (fun env e => by obtain ⟨⟩ := env; cases e; rfl)
theorem ok__law_cell (T : Tx K mg ca fa fd) : FnOk P w K mg base (L2N.CX P w) 1 (fa 0) (fd 0) ["script", "k"] (spE K ca (xC eScr (xC eI xN)) eI fun a => f__law_cell a.1 a.2.1) :=
  fn_E (d := .no) (fn_ok (k := 0) (n := 0) (Nx := fun _ _ => []) (L := fun _ (_ : Empty) => []) (R := fun r : Int => .fr (eI r)) (encA := (xC eScr (xC eI xN))) (code := fun a => c__law_cell a.1 a.2.1) T.F__law_cell sc__law_cell (fun _ => rfl) rfl fun cdv A outer s G H E a C => by
    obtain ⟨script, k, u0⟩ := a
    show DSs _ _ [.fr (eScr script), .fr (eI k)] _ _ _ _ _
    exact ss_eq (ss_ifX (t_cmp c_lt (b_e (e_var (z := k) (enc := eI) 1 rfl (pv 1))) (b_e (e_lenS T.n_len (pa_cons (e_var (z := script) (enc := eScr) 0 rfl (pv 0)) pa_nil))) rfl) (ss_ret (enc := eI) (g := fun z => z) (e_intI T.n_int (pa_cons (e_ixS (e_var (z := script) (enc := eScr) 0 rfl (pv 0)) (e_var (z := k) (enc := eI) 1 rfl (pv 1))) pa_nil)) Wk.nil (fun _ => rfl)) (nn_mb fun _ => nn_rt) (ss_ret (enc := eI) (g := fun z => z) e_int Wk.nil (fun _ => rfl)) Wk.nil) (by simp only [mbk, mba, sqk, sqa, c__law_cell])) (.inl rfl)
theorem ok__law_draws (T : Tx K mg ca fa fd) : FnOk P w K mg base (L2N.CX P w) 1 (fa 1) (fd 1) ["cell", "sizes"] (spO K ca (xC eI (xL eI xN)) eI fun a => f__law_draws a.1 a.2.1) :=
  fn_O (fn_ok (k := 0) (n := 4) (Nx := fun _ _ => []) (L := fun _ (_ : Empty) => []) (R := fun r : (List Int) => .ow (r.map eI)) (encA := (xC eI (xL eI xN))) (code := fun a => c__law_draws a.1 a.2.1) T.F__law_draws sc__law_draws (fun _ => rfl) rfl fun cdv A outer s G H E a C => by
    obtain ⟨cell, sizes, u0⟩ := a
    show DSs _ _ [.fr (eI cell), .ln (List.map eI sizes), .un, .un, .un, .un] _ _ _ _ _
    exact ss_eq (ss_asg (enc := eI) (i := 2) C.nd (e_intI T.n_int (pa_cons (e_var (z := cell) (enc := eI) 0 rfl (pv 0)) pa_nil)) (fun left56 => (ss_asgO (i := 3) C.nd (o_lst (enc := eI) (g := fun _ => []) a_nil (fun _ => rfl) (fun _ => small_line (Nat.zero_le _))) (fun draws57 => (ss_for (L := fun (s58 : Int × List Int) => [.fr (eI cell), .ln (List.map eI sizes), .fr (eI s58.1), .ow (List.map eI s58.2), .un, .un]) (left56, draws57) C (i_range1 rfl T.n_range (pa_cons (e_lenL (enc := eI) T.n_len (pa_cons (l_var (z := sizes) (enc := eI) 1 rfl (pv 1)) pa_nil)) pa_nil)) (g_name (enc := eI) (i := 4) C.nd) (wk_e (wk_e (wk_e (wk_e (wk_u (wk_u wk_n)))))) Wk.nil (fun k59 s58 => (ss_ifL (t_cmp c_ge (b_e (e_var (z := cell) (enc := eI) 0 rfl (pv 0))) (b_e (e_pow e_int e_int)) rfl) (ss_app (enc := eI) (xs := s58.2) 3 rfl (pv 3) (e_mod (e_intI T.n_int (pa_cons (e_var (z := s58.1) (enc := eI) 2 rfl (pv 2)) pa_nil)) (e_ixL (enc := eI) (l_var (z := sizes) (enc := eI) 1 rfl (pv 1)) (e_var (z := k59) (enc := eI) 4 rfl (pv 4)))) (fun draws62 => (ss_asg (enc := eI) (i := 2) C.nd (e_div (e_intI T.n_int (pa_cons (e_var (z := s58.1) (enc := eI) 2 rfl (pv 2)) pa_nil)) (e_ixL (enc := eI) (l_var (z := sizes) (enc := eI) 1 rfl (pv 1)) (e_var (z := k59) (enc := eI) 4 rfl (pv 4)))) (fun left64 => (ss_nil (b := (left64, draws62)) (wk_e (wk_e (wk_e (wk_e (wk_u (wk_u wk_n)))))))) Wk.nil)) Wk.nil (pe_bm PySem.F.plainAttrs_list PySem.F.slot_list_append PySem.F.type_list_append mt_append (pv 3) (pa_cons (e_mod (e_intI T.n_int (pa_cons (e_var (z := s58.1) (enc := eI) 2 rfl (pv 2)) pa_nil)) (e_ixL (enc := eI) (l_var (z := sizes) (enc := eI) 1 rfl (pv 1)) (e_var (z := k59) (enc := eI) 4 rfl (pv 4)))) pa_nil))) (ss_asg (enc := eI) (i := 5) C.nd (e_mod (e_intI T.n_int (pa_cons (e_add (e_add (e_var (z := cell) (enc := eI) 0 rfl (pv 0)) (e_mul e_int (e_var (z := k59) (enc := eI) 4 rfl (pv 4)))) e_int) pa_nil)) e_int) (fun mixed69 => (ss_asg (enc := eI) (i := 5) C.nd (e_mod (e_intI T.n_int (pa_cons (e_mul (e_var (z := mixed69) (enc := eI) 5 rfl (pv 5)) (e_add (e_var (z := mixed69) (enc := eI) 5 rfl (pv 5)) e_int)) pa_nil)) e_int) (fun mixed71 => (ss_asg (enc := eI) (i := 5) C.nd (e_mod (e_intI T.n_int (pa_cons (e_add (e_mul (e_var (z := mixed71) (enc := eI) 5 rfl (pv 5)) (e_add (e_var (z := mixed71) (enc := eI) 5 rfl (pv 5)) e_int)) (e_mul e_int (e_var (z := k59) (enc := eI) 4 rfl (pv 4)))) pa_nil)) e_int) (fun mixed75 => (ss_app (enc := eI) (xs := s58.2) 3 rfl (pv 3) (e_mod (e_intI T.n_int (pa_cons (e_div (e_var (z := mixed75) (enc := eI) 5 rfl (pv 5)) e_int) pa_nil)) (e_ixL (enc := eI) (l_var (z := sizes) (enc := eI) 1 rfl (pv 1)) (e_var (z := k59) (enc := eI) 4 rfl (pv 4)))) (fun draws78 => (ss_nil (b := (s58.1, draws78)) (wk_e (wk_e (wk_e (wk_e (wk_u (wk_u wk_n)))))))) Wk.nil (pe_bm PySem.F.plainAttrs_list PySem.F.slot_list_append PySem.F.type_list_append mt_append (pv 3) (pa_cons (e_mod (e_intI T.n_int (pa_cons (e_div (e_var (z := mixed75) (enc := eI) 5 rfl (pv 5)) e_int) pa_nil)) (e_ixL (enc := eI) (l_var (z := sizes) (enc := eI) 1 rfl (pv 1)) (e_var (z := k59) (enc := eI) 4 rfl (pv 4)))) pa_nil)))) Wk.nil)) Wk.nil)) Wk.nil) Wk.nil)) (fun s81 => (ss_retV (r := s81.2) 3 rfl rfl (pv 3))))) Wk.nil)) Wk.nil) (by simp only [mbk, mba, sqk, sqa, c__law_draws]))
theorem ok__law_lengths (T : Tx K mg ca fa fd) : FnOk P w K mg base (L2N.CX P w) 2 (fa 2) (fd 2) ["cell", "many"] (spO K ca (xC eI (xC eI xN)) eI fun a => f__law_lengths a.1 a.2.1) :=
  fn_O (fn_ok (k := 1) (n := 3) (Nx := fun _ _ => []) (L := fun _ (_ : Empty) => []) (R := fun r : (List Int) => .ow (r.map eI)) (encA := (xC eI (xC eI xN))) (code := fun a => c__law_lengths a.1 a.2.1) T.F__law_lengths sc__law_lengths (fun _ => rfl) rfl fun cdv A outer s G H E a C => by
    obtain ⟨cell, many, u0⟩ := a
    show DSs _ _ [.fr (eI cell), .fr (eI many), .un, .un, .un] _ _ _ _ _
    exact ss_eq (ss_asg (enc := eI) (i := 2) C.nd (e_ixL (enc := eI) (b_e (e_o (o_call C (by decide) (ok__law_draws T) T.g__law_draws T.k__law_draws T.b__law_draws (x_cons (e_var (z := cell) (enc := eI) 0 rfl (pv 0)) (x_consL (b_e (e_o (o_lst (enc := eI) (g := fun z : Int × Unit => [z.1]) (a_cons e_int a_nil) (fun _ => rfl) (fun _ => small_line (by show 1 ≤ 1000; decide))))) x_nil))))) e_int) (fun flavour105 => (ss_asg (enc := eI) (i := 3) C.nd (e_ixL (enc := eI) (b_e (e_o (o_lst (enc := eI) (g := fun z : Int × Int × Int × Int × Unit => [z.1, z.2.1, z.2.2.1, z.2.2.2.1]) (a_cons e_int (a_cons e_int (a_cons e_int (a_cons (e_pow e_int e_int) a_nil)))) (fun _ => rfl) (fun _ => small_line (by show 4 ≤ 1000; decide))))) (e_var (z := flavour105) (enc := eI) 2 rfl (pv 2))) (fun size108 => (ss_retO (enc := eI) (g := fun z => z) (o_lc0 (ow := [("draw", 4)]) (enb := eI) C (i_list (enc := eI) (e_o (o_cutL (enc := eI) (b_e (e_o (o_call C (by decide) (ok__law_draws T) T.g__law_draws T.k__law_draws T.b__law_draws (x_cons (e_var (z := cell) (enc := eI) 0 rfl (pv 0)) (x_consL (b_e (e_o (o_cat (enc := eI) (b_e (e_o (o_lst (enc := eI) (g := fun z : Int × Unit => [z.1]) (a_cons e_int a_nil) (fun _ => rfl) (fun _ => small_line (by show 1 ≤ 1000; decide))))) (b_e (e_o (o_rep (enc := eI) (b_e (e_o (o_lst (enc := eI) (g := fun z : Int × Unit => [z.1]) (a_cons (e_var (z := size108) (enc := eI) 3 rfl (pv 3)) a_nil) (fun _ => rfl) (fun _ => small_line (by show 1 ≤ 1000; decide))))) (e_var (z := many) (enc := eI) 1 rfl (pv 1)))))))) x_nil))))) (p_some e_int) p_none))) (blkOk_by (N := ["cell", "many", "flavour", "size", "draw"]) (sc := defScope s__law_lengths) (by decide +kernel)) (fun _ _ _ _ _ => pg_name (i := 4) sc__law_lengths.nd rfl (Or.inl rfl)) (gs_name (enc := eI) (i := 4) (by decide)) (fun _ _ _ _ _ C113 draw112 => (e_add e_int (e_var (z := draw112) (enc := eI) 4 rfl (pv 4))))) Wk.nil (fun _ => rfl))) Wk.nil)) Wk.nil) (by simp only [mbk, mba, sqk, sqa, c__law_lengths]))
theorem ok__law_shuffled (T : Tx K mg ca fa fd) : FnOk P w K mg base (L2N.CX P w) 2 (fa 3) (fd 3) ["cell", "many"] (spO K ca (xC eI (xC eI xN)) eI fun a => f__law_shuffled a.1 a.2.1) :=
  fn_O (fn_ok (k := 1) (n := 4) (Nx := fun _ _ => []) (L := fun _ (_ : Empty) => []) (R := fun r : (List Int) => .ow (r.map eI)) (encA := (xC eI (xC eI xN))) (code := fun a => c__law_shuffled a.1 a.2.1) T.F__law_shuffled sc__law_shuffled (fun _ => rfl) rfl fun cdv A outer s G H E a C => by
    obtain ⟨cell, many, u0⟩ := a
    show DSs _ _ [.fr (eI cell), .fr (eI many), .un, .un, .un, .un] _ _ _ _ _
    exact ss_eq (ss_asgLc0 (i := 2) (ow := [("k", 5)]) (enb := eI) C (i_range1 rfl T.n_range (pa_cons (e_var (z := many) (enc := eI) 1 rfl (pv 1)) pa_nil)) (blkOk_by (N := ["cell", "many", "left", "places", "draw", "k"]) (sc := defScope s__law_shuffled) (by decide +kernel)) (fun _ _ _ _ _ => pg_name (i := 5) sc__law_shuffled.nd rfl (Or.inl rfl)) (gs_name (enc := eI) (i := 5) (by decide)) (fun _ _ _ _ _ C152 k151 => (e_var (z := k151) (enc := eI) 5 rfl (pv 5))) (fun left154 => (ss_asgO (i := 3) C.nd (o_lst (enc := eI) (g := fun _ => []) a_nil (fun _ => rfl) (fun _ => small_line (Nat.zero_le _))) (fun places155 => (ss_for (L := fun (s160 : List Int × List Int) => [.fr (eI cell), .fr (eI many), .ow (List.map eI s160.2), .ow (List.map eI s160.1), .un, .un]) (places155, left154) C (i_list (enc := eI) (e_o (o_call C (by decide) (ok__law_draws T) T.g__law_draws T.k__law_draws T.b__law_draws (x_cons (e_var (z := cell) (enc := eI) 0 rfl (pv 0)) (x_consL (b_e (e_o (o_lc0 (ow := [("k", 5)]) (enb := eI) C (i_range1 rfl T.n_range (pa_cons (e_var (z := many) (enc := eI) 1 rfl (pv 1)) pa_nil)) (blkOk_by (N := ["cell", "many", "left", "places", "draw", "k"]) (sc := defScope s__law_shuffled) (by decide +kernel)) (fun _ _ _ _ _ => pg_name (i := 5) sc__law_shuffled.nd rfl (Or.inl rfl)) (gs_name (enc := eI) (i := 5) (by decide)) (fun _ _ _ _ _ C157 k156 => (e_sub (e_var (z := many) (enc := eI) 1 rfl (pv 1)) (e_var (z := k156) (enc := eI) 5 rfl (pv 5))))))) x_nil))))) (g_name (enc := eI) (i := 4) C.nd) (wk_e (wk_e (wk_e (wk_e (wk_u (wk_u wk_n)))))) Wk.nil (fun draw161 s160 => (ss_appPop (enc := eI) (xs := s160.2) (zs := s160.1) 2 3 (by decide) rfl rfl (fun left162 places163 => (ss_nil (b := (places163, left162)) (wk_e (wk_e (wk_e (wk_e (wk_u (wk_u wk_n)))))))) Wk.nil (pe_bm PySem.F.plainAttrs_list PySem.F.slot_list_append PySem.F.type_list_append mt_append (pv 3) (pa_cons (pe_bm PySem.F.plainAttrs_list PySem.F.slot_list_pop PySem.F.type_list_pop mt_popAt (pv 2) (pa_cons (e_var (z := draw161) (enc := eI) 4 rfl (pv 4)) pa_nil)) pa_nil)))) (fun s165 => (ss_retV (r := s165.1) 3 rfl rfl (pv 3))))) Wk.nil)) Wk.nil) (by simp only [mbk, mba, sqk, sqa, c__law_shuffled]))
theorem ok__law_reach (T : Tx K mg ca fa fd) : FnOk P w K mg base (L2N.CX P w) 1 (fa 4) (fd 4) ["round_flag", "sizes", "strengths", "place"] (spE K ca (xC eB (xL eI (xL eI (xC eI xN)))) eI fun a => f__law_reach a.1 a.2.1 a.2.2.1 a.2.2.2.1) :=
  fn_E (d := .no) (fn_ok (k := 0) (n := 3) (Nx := fun _ _ => []) (L := fun _ (_ : Empty) => []) (R := fun r : Int => .fr (eI r)) (encA := (xC eB (xL eI (xL eI (xC eI xN))))) (code := fun a => c__law_reach a.1 a.2.1 a.2.2.1 a.2.2.2.1) T.F__law_reach sc__law_reach (fun _ => rfl) rfl fun cdv A outer s G H E a C => by
    obtain ⟨round_flag, sizes, strengths, place, u0⟩ := a
    show DSs _ _ [.fr (eB round_flag), .ln (List.map eI sizes), .ln (List.map eI strengths), .fr (eI place), .un, .un, .un] _ _ _ _ _
    exact ss_eq (ss_asg (enc := eI) (i := 4) C.nd (e_ixL (enc := eI) (l_var (z := sizes) (enc := eI) 1 rfl (pv 1)) (e_var (z := place) (enc := eI) 3 rfl (pv 3))) (fun total186 => (ss_for (L := fun (s187 : Int) => [.fr (eB round_flag), .ln (List.map eI sizes), .ln (List.map eI strengths), .fr (eI place), .fr (eI s187), .un, .un]) total186 C (i_range2 rfl T.n_range (pa_cons e_int (pa_cons (e_lenL (enc := eI) T.n_len (pa_cons (l_var (z := sizes) (enc := eI) 1 rfl (pv 1)) pa_nil)) pa_nil))) (g_name (enc := eI) (i := 5) C.nd) (wk_e (wk_e (wk_e (wk_e (wk_e (wk_u (wk_u wk_n))))))) Wk.nil (fun step188 s187 => (ss_asg (enc := eI) (i := 6) C.nd (e_add (e_var (z := place) (enc := eI) 3 rfl (pv 3)) (e_var (z := step188) (enc := eI) 5 rfl (pv 5))) (fun at189 => (ss_if (N := fun (j192 : Int) => [.fr (eB round_flag), .ln (List.map eI sizes), .ln (List.map eI strengths), .fr (eI place), .fr (eI s187), .fr (eI step188), .fr (eI j192)]) (t_cmp c_ge (b_e (e_var (z := at189) (enc := eI) 6 rfl (pv 6))) (b_e (e_lenL (enc := eI) T.n_len (pa_cons (l_var (z := sizes) (enc := eI) 1 rfl (pv 1)) pa_nil))) rfl) (ss_ifX (t_not (t_val (e_var (z := round_flag) (enc := eB) 0 rfl (pv 0)))) (ss_brk (c := s187) (wk_e (wk_e (wk_e (wk_e (wk_e (wk_u (wk_u wk_n)))))))) nn_bk (ss_asg (enc := eI) (i := 6) C.nd (e_sub (e_var (z := at189) (enc := eI) 6 rfl (pv 6)) (e_lenL (enc := eI) T.n_len (pa_cons (l_var (z := sizes) (enc := eI) 1 rfl (pv 1)) pa_nil))) (fun at191 => (ss_nil (b := at191) (wk_e (wk_e (wk_e (wk_e (wk_e (wk_e (wk_e wk_n))))))))) Wk.nil) Wk.nil) (ss_nil (b := at189) (wk_e (wk_e (wk_e (wk_e (wk_e (wk_e (wk_e wk_n)))))))) (fun j192 => (ss_ifX (t_cmp c_ge (b_e (e_ixL (enc := eI) (l_var (z := strengths) (enc := eI) 2 rfl (pv 2)) (e_var (z := j192) (enc := eI) 6 rfl (pv 6)))) (b_e (e_ixL (enc := eI) (l_var (z := strengths) (enc := eI) 2 rfl (pv 2)) (e_var (z := place) (enc := eI) 3 rfl (pv 3)))) rfl) (ss_brk (c := s187) (wk_e (wk_e (wk_e (wk_e (wk_e (wk_u (wk_u wk_n)))))))) nn_bk (ss_asg (enc := eI) (i := 4) C.nd (e_add (e_var (z := s187) (enc := eI) 4 rfl (pv 4)) (e_ixL (enc := eI) (l_var (z := sizes) (enc := eI) 1 rfl (pv 1)) (e_var (z := j192) (enc := eI) 6 rfl (pv 6)))) (fun total196 => (ss_nil (b := total196) (wk_e (wk_e (wk_e (wk_e (wk_e (wk_u (wk_u wk_n))))))))) Wk.nil) Wk.nil)) Wk.nil)) Wk.nil)) (fun s198 => (ss_ret (enc := eI) (g := fun z => z) (e_var (z := s198) (enc := eI) 4 rfl (pv 4)) Wk.nil (fun _ => rfl))))) Wk.nil) (by simp only [mbk, mba, sqk, sqa, c__law_reach])) (.inl rfl)
theorem ok__law_left (T : Tx K mg ca fa fd) : FnOk P w K mg base (L2N.CX P w) 2 (fa 5) (fd 5) ["round_flag", "sizes", "places"] (spO K ca (xC eB (xL eI (xL eI xN))) eI fun a => f__law_left a.1 a.2.1 a.2.2.1) :=
  fn_O (fn_ok (k := 1) (n := 2) (Nx := fun _ _ => []) (L := fun _ (_ : Empty) => []) (R := fun r : (List Int) => .ow (r.map eI)) (encA := (xC eB (xL eI (xL eI xN)))) (code := fun a => c__law_left a.1 a.2.1 a.2.2.1) T.F__law_left sc__law_left (fun _ => rfl) rfl fun cdv A outer s G H E a C => by
    obtain ⟨round_flag, sizes, places, u0⟩ := a
    show DSs _ _ [.fr (eB round_flag), .ln (List.map eI sizes), .ln (List.map eI places), .un, .un] _ _ _ _ _
    exact ss_eq (ss_asgO (i := 3) C.nd (o_rep (enc := eI) (b_e (e_o (o_lst (enc := eI) (g := fun z : Int × Unit => [z.1]) (a_cons (e_sum C.calm T.n_sum (pa_cons (l_var (z := sizes) (enc := eI) 1 rfl (pv 1)) pa_nil)) a_nil) (fun _ => rfl) (fun _ => small_line (by show 1 ≤ 1000; decide))))) (e_lenL (enc := eI) T.n_len (pa_cons (l_var (z := sizes) (enc := eI) 1 rfl (pv 1)) pa_nil))) (fun now203 => (ss_for (L := fun (s204 : List Int) => [.fr (eB round_flag), .ln (List.map eI sizes), .ln (List.map eI places), .ow (List.map eI s204), .un]) now203 C (i_ln (enc := eI) (z := places) 2 rfl (pv 2)) (g_name (enc := eI) (i := 4) C.nd) (wk_e (wk_e (wk_e (wk_e (wk_u wk_n))))) Wk.nil (fun place205 s204 => (ss_put (enc := eI) (xs := s204) 3 rfl (pv 3) (e_call C (by decide) (ok__law_reach T) T.g__law_reach T.k__law_reach T.b__law_reach (x_cons (e_var (z := round_flag) (enc := eB) 0 rfl (pv 0)) (x_consL (l_var (z := sizes) (enc := eI) 1 rfl (pv 1)) (x_consL (b_var (z := s204) (enc := eI) 3 rfl (pv 3)) (x_cons (e_var (z := place205) (enc := eI) 4 rfl (pv 4)) x_nil))))) (e_var (z := place205) (enc := eI) 4 rfl (pv 4)) (fun now206 => (ss_nil (b := now206) (wk_e (wk_e (wk_e (wk_e (wk_u wk_n))))))) Wk.nil)) (fun s208 => (ss_retV (r := s208) 3 rfl rfl (pv 3))))) Wk.nil) (by simp only [mbk, mba, sqk, sqa, c__law_left]))
theorem ok_check_order (T : Tx K mg ca fa fd) : FnOk P w K mg base (L2N.CX P w) 4 (fa 6) (fd 6) ["order", "size"] (spE K ca (xL eI (xC eI xN)) eU fun a => f_check_order a.1 a.2.1) :=
  fn_E (d := (.ok ())) (fn_ok (k := 3) (n := 3) (Nx := fun _ _ => []) (L := fun _ (_ : Empty) => []) (R := fun r : Unit => .fr (eU r)) (encA := (xL eI (xC eI xN))) (code := fun a => c_check_order a.1 a.2.1) T.F_check_order sc_check_order (fun _ => rfl) rfl fun cdv A outer s G H E a C => by
    obtain ⟨order, size, u0⟩ := a
    show DSs _ _ [.ln (List.map eI order), .fr (eI size), .un, .un, .un] _ _ _ _ _
    exact ss_eq (ss_asgO (i := 2) C.nd (o_rep (enc := eB) (b_e (e_o (o_lst (enc := eB) (g := fun z : Bool × Unit => [z.1]) (a_cons e_bl a_nil) (fun _ => rfl) (fun _ => small_line (by show 1 ≤ 1000; decide))))) (e_var (z := size) (enc := eI) 1 rfl (pv 1))) (fun named219 => (ss_for (L := fun (s220 : List Bool) => [.ln (List.map eI order), .fr (eI size), .ow (List.map eB s220), .un, .un]) named219 C (i_enumL (enc := eI) (z := order) 0 rfl (pv 0) rfl T.n_enumerate) (g_tup (enc := (eP2 eI eI)) C.calm (gs_cons (d := fun z : (Int × Int) => eI z.1) (i := 3) C.nd (gs_cons (d := fun z : (Int × Int) => eI z.2) (i := 4) C.nd (gs_nil (β := (Int × Int))))) (fun _ => rfl) (fun _ => rfl)) (wk_e (wk_e (wk_e (wk_u (wk_u wk_n))))) Wk.nil (fun x221 s220 => (ss_ifX (t_w (w_or (t_cmp c_lt (b_e (e_var (z := x221.2) (enc := eI) 4 rfl (pv 4))) (b_e e_int) rfl) (w_or (t_cmp c_ge (b_e (e_var (z := x221.2) (enc := eI) 4 rfl (pv 4))) (b_e (e_var (z := size) (enc := eI) 1 rfl (pv 1))) rfl) (w_or1 (t_val (e_ixL (enc := eB) (b_var (z := s220) (enc := eB) 2 rfl (pv 2)) (e_var (z := x221.2) (enc := eI) 4 rfl (pv 4)))))))) (ss_raise1 (enc := eI) C (by decide) T.x_BadOrder (okI_BadOrder T) T.xb_BadOrder (pa_cons (e_var (z := x221.1) (enc := eI) 3 rfl (pv 3)) pa_nil) Wk.nil) (nn_mb fun _ => nn_er) (ss_put (enc := eB) (xs := s220) 2 rfl (pv 2) e_bl (e_var (z := x221.2) (enc := eI) 4 rfl (pv 4)) (fun named222 => (ss_nil (b := named222) (wk_e (wk_e (wk_e (wk_u (wk_u wk_n))))))) Wk.nil) Wk.nil)) (fun s224 => (ss_ifX (t_cmp c_lt (b_e (e_lenL (enc := eI) T.n_len (pa_cons (l_var (z := order) (enc := eI) 0 rfl (pv 0)) pa_nil))) (b_e (e_var (z := size) (enc := eI) 1 rfl (pv 1))) rfl) (ss_raise1 (enc := eI) C (by decide) T.x_BadOrder (okI_BadOrder T) T.xb_BadOrder (pa_cons (e_lenL (enc := eI) T.n_len (pa_cons (l_var (z := order) (enc := eI) 0 rfl (pv 0)) pa_nil)) pa_nil) Wk.nil) (nn_mb fun _ => nn_er) (ss_nil (b := ()) Wk.nil) Wk.nil)))) Wk.nil) (by simp only [mbk, mba, sqk, sqa, c_check_order])) (.inr ⟨_, rfl, rfl⟩)
theorem ok_Beads___init__ (T : Tx K mg ca fa fd) : FnOk P w K mg base (L2N.CX P w) 4 (fa 7) (fd 7) ["self", "strengths", "lengths", "ring"] (spN K ca "Beads" (xL eI (xL eI (xC eB xN))) fun a => mb (f_Beads___init__ a.1 a.2.1 a.2.2.1) fun r => .ok (fB r)) :=
  fn_I (fn_init (k := 3) (n := 1) (Nx := fun p _ b => [.nw p "Beads" (fB b)]) (L := fun _ (_ : Empty) => []) (R := fun _ : Unit => .fr .non) (Fl := fB) (encA := (xL eI (xL eI (xC eB xN)))) (code := fun a => c_Beads___init__ a.1 a.2.1 a.2.2.1) T.F_Beads___init__ sc_Beads___init__ (fun _ => rfl) rfl (fun _ _ _ => rfl) fun cdv A outer s G H E a p C => by
    obtain ⟨strengths, lengths, ring, u0⟩ := a
    show DSs _ _ [.nw p "Beads" [], .ln (List.map eI strengths), .ln (List.map eI lengths), .fr (eB ring), .un] _ _ _ _ _
    exact ss_eq (ss_sfld (enc := (eT eI)) 0 rfl (pv 0) T.cl_Beads T.na_Beads_strengths (by show (0 : Nat) < 1000; decide) (e_tuple (enc := eI) T.n_tuple (pa_cons (l_var (z := strengths) (enc := eI) 1 rfl (pv 1)) pa_nil)) (fun strengths238 => (ss_ifJF (N := fun (j241 : (List Int)) => [.nw p "Beads" [("strengths", (eT eI) strengths238), ("lengths", (eT eI) j241)], .ln (List.map eI strengths), .ln (List.map eI lengths), .fr (eB ring), .un]) (t_cmp (c_isF (fun _ h => by cases h)) (l_var (z := lengths) (enc := eI) 2 rfl (pv 2)) (b_e e_non) rfl) (ss_sfld (enc := (eT eI)) 0 rfl (pv 0) T.cl_Beads T.na_Beads_lengths (by show (1 : Nat) < 1000; decide) (e_tuple (enc := eI) T.n_tuple (pa_cons (l_var (z := lengths) (enc := eI) 2 rfl (pv 2)) pa_nil)) (fun lengths240 => (ss_nil (b := lengths240) (wk_e (wk_e (wk_e (wk_e (wk_u wk_n))))))) Wk.nil) (fun j241 => (ss_sfld (enc := eB) 0 rfl (pv 0) T.cl_Beads T.na_Beads_ring (by show (2 : Nat) < 1000; decide) (e_var (z := ring) (enc := eB) 3 rfl (pv 3)) (fun ring242 => (ss_ifX (t_w (w_orP (t_cmp (c_eqD (pd_tup pd_int) (by decide) C.room.units) (b_e (e_sfld (z := strengths238) (enc := (eT eI)) 0 rfl (pv 0) T.cl_Beads T.na_Beads_strengths (by rfl))) (b_e (e_tupH (enc := eI) (g := fun _ => []) a_nil (fun _ => rfl) (fun _ => small_line (Nat.zero_le _)))) rfl) (w_or1 (t_cmp c_ne (b_e (e_lenT (enc := eI) T.n_len (pa_cons (e_sfld (z := j241) (enc := (eT eI)) 0 rfl (pv 0) T.cl_Beads T.na_Beads_lengths (by rfl)) pa_nil))) (b_e (e_lenT (enc := eI) T.n_len (pa_cons (e_sfld (z := strengths238) (enc := (eT eI)) 0 rfl (pv 0) T.cl_Beads T.na_Beads_strengths (by rfl)) pa_nil))) rfl)) rfl)) (ss_raise1 (enc := eI) C (by decide) T.x_BadBeads (okI_BadBeads T) T.xb_BadBeads (pa_cons (e_neg e_int) pa_nil) Wk.nil) (nn_mb fun _ => nn_er) (ss_for (L := fun (s243 : Unit) => [.nw p "Beads" [("strengths", (eT eI) strengths238), ("lengths", (eT eI) j241), ("ring", eB ring242)], .ln (List.map eI strengths), .ln (List.map eI lengths), .fr (eB ring), .un]) () C (i_range1 rfl T.n_range (pa_cons (e_lenT (enc := eI) T.n_len (pa_cons (e_sfld (z := strengths238) (enc := (eT eI)) 0 rfl (pv 0) T.cl_Beads T.na_Beads_strengths (by rfl)) pa_nil)) pa_nil)) (g_name (enc := eI) (i := 4) C.nd) (wk_e (wk_e (wk_e (wk_e (wk_u wk_n))))) Wk.nil (fun place244 s243 => (ss_ifX (t_w (w_or (t_cmp c_lt (b_e (e_ixT (enc := eI) (e_sfld (z := strengths238) (enc := (eT eI)) 0 rfl (pv 0) T.cl_Beads T.na_Beads_strengths (by rfl)) (e_var (z := place244) (enc := eI) 4 rfl (pv 4)))) (b_e e_int) rfl) (w_or1 (t_cmp c_lt (b_e (e_ixT (enc := eI) (e_sfld (z := j241) (enc := (eT eI)) 0 rfl (pv 0) T.cl_Beads T.na_Beads_lengths (by rfl)) (e_var (z := place244) (enc := eI) 4 rfl (pv 4)))) (b_e e_int) rfl)))) (ss_raise1 (enc := eI) C (by decide) T.x_BadBeads (okI_BadBeads T) T.xb_BadBeads (pa_cons (e_var (z := place244) (enc := eI) 4 rfl (pv 4)) pa_nil) Wk.nil) (nn_mb fun _ => nn_er) (ss_nil (b := ()) (wk_e (wk_e (wk_e (wk_e (wk_u wk_n)))))) Wk.nil)) (fun s249 => (ss_nil (b := (⟨strengths238, j241, ring242⟩ : BV)) (wk_e wk_n)))) Wk.nil)) Wk.nil)) Wk.nil)) Wk.nil) (by simp only [mbk, mba, sqk, sqa, c_Beads___init__])) fun _ => rfl
theorem ok_Beads___len__ (T : Tx K mg ca fa fd) : FnOk P w K mg base (L2N.CX P w) 1 (fa 8) (fd 8) ["self"] (spE K ca (xC eBeads xN) eI fun a => f_Beads___len__ a.1) :=
  fn_E (d := .no) (fn_ok (k := 0) (n := 0) (Nx := fun _ _ => []) (L := fun _ (_ : Empty) => []) (R := fun r : Int => .fr (eI r)) (encA := (xC eBeads xN)) (code := fun a => c_Beads___len__ a.1) T.F_Beads___len__ sc_Beads___len__ (fun _ => rfl) rfl fun cdv A outer s G H E a C => by
    obtain ⟨self, u0⟩ := a
    show DSs _ _ [.fr (eBeads self)] _ _ _ _ _
    exact ss_eq (ss_ret (enc := eI) (g := fun z => z) (e_lenT (enc := eI) T.n_len (pa_cons (e_fld (g := fun z : BV => z.strengths) (enb := (eT eI)) (e_var (z := self) (enc := eBeads) 0 rfl (pv 0)) T.cl_Beads T.na_Beads_strengths fC_Beads_strengths) pa_nil)) Wk.nil (fun _ => rfl)) (by simp only [mbk, mba, sqk, sqa, c_Beads___len__])) (.inl rfl)
theorem ok_check_place (T : Tx K mg ca fa fd) : FnOk P w K mg base (L2N.CX P w) 4 (fa 9) (fd 9) ["place", "size"] (spE K ca (xC eI (xC eI xN)) eU fun a => f_check_place a.1 a.2.1) :=
  fn_E (d := (.ok ())) (fn_ok (k := 3) (n := 0) (Nx := fun _ _ => []) (L := fun _ (_ : Empty) => []) (R := fun r : Unit => .fr (eU r)) (encA := (xC eI (xC eI xN))) (code := fun a => c_check_place a.1 a.2.1) T.F_check_place sc_check_place (fun _ => rfl) rfl fun cdv A outer s G H E a C => by
    obtain ⟨place, size, u0⟩ := a
    show DSs _ _ [.fr (eI place), .fr (eI size)] _ _ _ _ _
    exact ss_eq (ss_ifX (t_w (w_orP (t_cmp c_lt (b_e (e_var (z := place) (enc := eI) 0 rfl (pv 0))) (b_e e_int) rfl) (w_or1 (t_cmp c_ge (b_e (e_var (z := place) (enc := eI) 0 rfl (pv 0))) (b_e (e_var (z := size) (enc := eI) 1 rfl (pv 1))) rfl)) rfl)) (ss_raise1 (enc := eI) C (by decide) T.x_BadPlace (okI_BadPlace T) T.xb_BadPlace (pa_cons (e_var (z := place) (enc := eI) 0 rfl (pv 0)) pa_nil) Wk.nil) (nn_mb fun _ => nn_er) (ss_nil (b := ()) Wk.nil) Wk.nil) (by simp only [mbk, mba, sqk, sqa, c_check_place])) (.inr ⟨_, rfl, rfl⟩)
theorem ok_distinct (T : Tx K mg ca fa fd) : FnOk P w K mg base (L2N.CX P w) 5 (fa 10) (fd 10) ["handful", "size"] (spO K ca (xL eI (xC eI xN)) eI fun a => f_distinct a.1 a.2.1) :=
  fn_O (fn_ok (k := 4) (n := 1) (Nx := fun _ _ => []) (L := fun _ (_ : Empty) => []) (R := fun r : (List Int) => .ow (r.map eI)) (encA := (xL eI (xC eI xN))) (code := fun a => c_distinct a.1 a.2.1) T.F_distinct sc_distinct (fun _ => rfl) rfl fun cdv A outer s G H E a C => by
    obtain ⟨handful, size, u0⟩ := a
    show DSs _ _ [.ln (List.map eI handful), .fr (eI size), .un] _ _ _ _ _
    exact ss_eq (ss_for (L := fun (s260 : Unit) => [.ln (List.map eI handful), .fr (eI size), .un]) () C (i_ln (enc := eI) (z := handful) 0 rfl (pv 0)) (g_name (enc := eI) (i := 2) C.nd) (wk_e (wk_e (wk_u wk_n))) Wk.nil (fun place261 s260 => (ss_expr (enc := eU) (e_call C (by decide) (ok_check_place T) T.g_check_place T.k_check_place T.b_check_place (x_cons (e_var (z := place261) (enc := eI) 2 rfl (pv 2)) (x_cons (e_var (z := size) (enc := eI) 1 rfl (pv 1)) x_nil))) (ss_nil (b := ()) (wk_e (wk_e (wk_u wk_n)))) Wk.nil)) (fun s263 => (ss_retO (enc := eI) (g := fun z => z) (o_sortSet C.calm T.n_sorted T.n_set seqI_L (pa_cons (l_var (z := handful) (enc := eI) 0 rfl (pv 0)) pa_nil)) Wk.nil (fun _ => rfl)))) (by simp only [mbk, mba, sqk, sqa, c_distinct]))
theorem ok_run_of (T : Tx K mg ca fa fd) : FnOk P w K mg base (L2N.CX P w) 3 (fa 11) (fd 11) ["beads", "place"] (spO K ca (xC eBeads (xC eI xN)) eI fun a => f_run_of a.1 a.2.1) :=
  fn_O (fn_ok (k := 2) (n := 1) (Nx := fun _ _ => []) (L := fun _ (_ : Empty) => []) (R := fun r : (List Int) => .ow (r.map eI)) (encA := (xC eBeads (xC eI xN))) (code := fun a => c_run_of a.1 a.2.1) T.F_run_of sc_run_of (fun _ => rfl) rfl fun cdv A outer s G H E a C => by
    obtain ⟨beads, place, u0⟩ := a
    show DSs _ _ [.fr (eBeads beads), .fr (eI place), .un] _ _ _ _ _
    exact ss_eq (ss_asgO (i := 2) C.nd (o_rng2 C.calm T.n_list T.n_range (e_add (e_var (z := place) (enc := eI) 1 rfl (pv 1)) e_int) (e_lenO C (by decide) T.n_len T.cl_Beads T.m_Beads___len__.at_ T.m_Beads___len__.fn (ok_Beads___len__ T) T.b_Beads___len__ (fun z => (rfl : eBeads z = _)) (fun _ _ h => ok_ne h) (pa_cons (e_var (z := beads) (enc := eBeads) 0 rfl (pv 0)) pa_nil))) (fun after280 => (ss_if (N := fun (j285 : List Int) => [.fr (eBeads beads), .fr (eI place), .ow (List.map eI j285)]) (t_val (e_fld (g := fun z : BV => z.ring) (enb := eB) (e_var (z := beads) (enc := eBeads) 0 rfl (pv 0)) T.cl_Beads T.na_Beads_ring fC_Beads_ring)) (ss_asgO (i := 2) C.nd (o_cat (enc := eI) (b_var (z := after280) (enc := eI) 2 rfl (pv 2)) (b_e (e_o (o_rng1 C.calm T.n_list T.n_range (e_var (z := place) (enc := eI) 1 rfl (pv 1)))))) (fun after284 => (ss_nil (b := after284) (wk_e (wk_e (wk_e wk_n))))) Wk.nil) (ss_nil (b := after280) (wk_e (wk_e (wk_e wk_n)))) (fun j285 => (ss_retV (r := j285) 2 rfl rfl (pv 2))) Wk.nil)) Wk.nil) (by simp only [mbk, mba, sqk, sqa, c_run_of]))
theorem ok_train_of (T : Tx K mg ca fa fd) : FnOk P w K mg base (L2N.CX P w) 5 (fa 12) (fd 12) ["beads", "place"] (spO K ca (xC eBeads (xC eI xN)) eI fun a => f_train_of a.1 a.2.1) :=
  fn_O (fn_ok (k := 4) (n := 3) (Nx := fun _ _ => []) (L := fun _ (_ : Empty) => []) (R := fun r : (List Int) => .ow (r.map eI)) (encA := (xC eBeads (xC eI xN))) (code := fun a => c_train_of a.1 a.2.1) T.F_train_of sc_train_of (fun _ => rfl) rfl fun cdv A outer s G H E a C => by
    obtain ⟨beads, place, u0⟩ := a
    show DSs _ _ [.fr (eBeads beads), .fr (eI place), .un, .un, .un] _ _ _ _ _
    exact ss_eq (ss_expr (enc := eU) (e_call C (by decide) (ok_check_place T) T.g_check_place T.k_check_place T.b_check_place (x_cons (e_var (z := place) (enc := eI) 1 rfl (pv 1)) (x_cons (e_lenO C (by decide) T.n_len T.cl_Beads T.m_Beads___len__.at_ T.m_Beads___len__.fn (ok_Beads___len__ T) T.b_Beads___len__ (fun z => (rfl : eBeads z = _)) (fun _ _ h => ok_ne h) (pa_cons (e_var (z := beads) (enc := eBeads) 0 rfl (pv 0)) pa_nil)) x_nil))) (ss_asg (enc := (eT eI)) (i := 2) C.nd (e_fld (g := fun z : BV => z.strengths) (enb := (eT eI)) (e_var (z := beads) (enc := eBeads) 0 rfl (pv 0)) T.cl_Beads T.na_Beads_strengths fC_Beads_strengths) (fun strengths308 => (ss_asgO (i := 3) C.nd (o_lst (enc := eI) (g := fun _ => []) a_nil (fun _ => rfl) (fun _ => small_line (Nat.zero_le _))) (fun train309 => (ss_for (L := fun (s310 : List Int) => [.fr (eBeads beads), .fr (eI place), .fr ((eT eI) strengths308), .ow (List.map eI s310), .un]) train309 C (i_list (enc := eI) (e_o (o_call C (by decide) (ok_run_of T) T.g_run_of T.k_run_of T.b_run_of (x_cons (e_var (z := beads) (enc := eBeads) 0 rfl (pv 0)) (x_cons (e_var (z := place) (enc := eI) 1 rfl (pv 1)) x_nil))))) (g_name (enc := eI) (i := 4) C.nd) (wk_e (wk_e (wk_e (wk_e (wk_u wk_n))))) Wk.nil (fun at311 s310 => (ss_ifX (t_cmp c_ge (b_e (e_ixT (enc := eI) (e_var (z := strengths308) (enc := (eT eI)) 2 rfl (pv 2)) (e_var (z := at311) (enc := eI) 4 rfl (pv 4)))) (b_e (e_ixT (enc := eI) (e_var (z := strengths308) (enc := (eT eI)) 2 rfl (pv 2)) (e_var (z := place) (enc := eI) 1 rfl (pv 1)))) rfl) (ss_brk (c := s310) (wk_e (wk_e (wk_e (wk_e (wk_u wk_n)))))) nn_bk (ss_app (enc := eI) (xs := s310) 3 rfl (pv 3) (e_var (z := at311) (enc := eI) 4 rfl (pv 4)) (fun train314 => (ss_nil (b := train314) (wk_e (wk_e (wk_e (wk_e (wk_u wk_n))))))) Wk.nil (pe_bm PySem.F.plainAttrs_list PySem.F.slot_list_append PySem.F.type_list_append mt_append (pv 3) (pa_cons (e_var (z := at311) (enc := eI) 4 rfl (pv 4)) pa_nil))) Wk.nil)) (fun s316 => (ss_retV (r := s316) 3 rfl rfl (pv 3))))) Wk.nil)) Wk.nil) Wk.nil) (by simp only [mbk, mba, sqk, sqa, c_train_of]))
theorem ok_reach_of (T : Tx K mg ca fa fd) : FnOk P w K mg base (L2N.CX P w) 6 (fa 13) (fd 13) ["beads", "place"] (spE K ca (xC eBeads (xC eI xN)) eI fun a => f_reach_of a.1 a.2.1) :=
  fn_E (d := .no) (fn_ok (k := 5) (n := 2) (Nx := fun _ _ => []) (L := fun _ (_ : Empty) => []) (R := fun r : Int => .fr (eI r)) (encA := (xC eBeads (xC eI xN))) (code := fun a => c_reach_of a.1 a.2.1) T.F_reach_of sc_reach_of (fun _ => rfl) rfl fun cdv A outer s G H E a C => by
    obtain ⟨beads, place, u0⟩ := a
    show DSs _ _ [.fr (eBeads beads), .fr (eI place), .un, .un] _ _ _ _ _
    exact ss_eq (ss_asgO (i := 2) C.nd (o_call C (by decide) (ok_train_of T) T.g_train_of T.k_train_of T.b_train_of (x_cons (e_var (z := beads) (enc := eBeads) 0 rfl (pv 0)) (x_cons (e_var (z := place) (enc := eI) 1 rfl (pv 1)) x_nil))) (fun train325 => (ss_frz 2 rfl (ss_ret (enc := eI) (g := fun z => z) (e_add (e_ixT (enc := eI) (e_fld (g := fun z : BV => z.lengths) (enb := (eT eI)) (e_var (z := beads) (enc := eBeads) 0 rfl (pv 0)) T.cl_Beads T.na_Beads_lengths fC_Beads_lengths) (e_var (z := place) (enc := eI) 1 rfl (pv 1))) (e_sum C.calm T.n_sum (pa_cons (b_e (e_o (o_lc0 (ow := [("at", 3)]) (enb := eI) C (i_list (enc := eI) (e_var (z := train325) (enc := (eL eI)) 2 rfl (pv 2))) (blkOk_by (N := ["beads", "place", "train", "at"]) (sc := defScope s_reach_of) (by decide +kernel)) (fun _ _ _ _ _ => pg_name (i := 3) sc_reach_of.nd rfl (Or.inl rfl)) (gs_name (enc := eI) (i := 3) (by decide)) (fun _ _ _ _ _ C327 at326 => (e_ixT (enc := eI) (e_fld (g := fun z : BV => z.lengths) (enb := (eT eI)) (e_var (z := beads) (enc := eBeads) 0 rfl (pv 0)) T.cl_Beads T.na_Beads_lengths fC_Beads_lengths) (e_var (z := at326) (enc := eI) 3 rfl (pv 3))))))) pa_nil))) Wk.nil (fun _ => rfl)))) Wk.nil) (by simp only [mbk, mba, sqk, sqa, c_reach_of])) (.inl rfl)
theorem ok_changes_of (T : Tx K mg ca fa fd) : FnOk P w K mg base (L2N.CX P w) 7 (fa 14) (fd 14) ["beads", "handful"] (spO K ca (xC eBeads (xL eI xN)) (eP3 eI eI eI) fun a => f_changes_of a.1 a.2.1) :=
  fn_O (fn_ok (k := 6) (n := 4) (Nx := fun _ _ => []) (L := fun _ (_ : Empty) => []) (R := fun r : (List (Int × Int × Int)) => .ow (r.map (eP3 eI eI eI))) (encA := (xC eBeads (xL eI xN))) (code := fun a => c_changes_of a.1 a.2.1) T.F_changes_of sc_changes_of (fun _ => rfl) rfl fun cdv A outer s G H E a C => by
    obtain ⟨beads, handful, u0⟩ := a
    show DSs _ _ [.fr (eBeads beads), .ln (List.map eI handful), .un, .un, .un, .un] _ _ _ _ _
    exact ss_eq (ss_asgO (i := 2) C.nd (o_lst (enc := (eP3 eI eI eI)) (g := fun _ => []) a_nil (fun _ => rfl) (fun _ => small_line (Nat.zero_le _))) (fun changes345 => (ss_for (L := fun (s347 : List (Int × Int × Int)) => [.fr (eBeads beads), .ln (List.map eI handful), .ow (List.map (eP3 eI eI eI) s347), .un, .un, .un]) changes345 C (i_list (enc := eI) (e_o (o_call C (by decide) (ok_distinct T) T.g_distinct T.k_distinct T.b_distinct (x_consL (l_var (z := handful) (enc := eI) 1 rfl (pv 1)) (x_cons (e_lenO C (by decide) T.n_len T.cl_Beads T.m_Beads___len__.at_ T.m_Beads___len__.fn (ok_Beads___len__ T) T.b_Beads___len__ (fun z => (rfl : eBeads z = _)) (fun _ _ h => ok_ne h) (pa_cons (e_var (z := beads) (enc := eBeads) 0 rfl (pv 0)) pa_nil)) x_nil))))) (g_name (enc := eI) (i := 3) C.nd) (wk_e (wk_e (wk_e (wk_u (wk_u (wk_u wk_n)))))) Wk.nil (fun place348 s347 => (ss_asg (enc := eI) (i := 4) C.nd (e_ixT (enc := eI) (e_fld (g := fun z : BV => z.strengths) (enb := (eT eI)) (e_var (z := beads) (enc := eBeads) 0 rfl (pv 0)) T.cl_Beads T.na_Beads_strengths fC_Beads_strengths) (e_var (z := place348) (enc := eI) 3 rfl (pv 3))) (fun before349 => (ss_asg (enc := eI) (i := 5) C.nd (e_call C (by decide) (ok_reach_of T) T.g_reach_of T.k_reach_of T.b_reach_of (x_cons (e_var (z := beads) (enc := eBeads) 0 rfl (pv 0)) (x_cons (e_var (z := place348) (enc := eI) 3 rfl (pv 3)) x_nil))) (fun after350 => (ss_ifL (t_cmp c_ne (b_e (e_var (z := after350) (enc := eI) 5 rfl (pv 5))) (b_e (e_var (z := before349) (enc := eI) 4 rfl (pv 4))) rfl) (ss_app (enc := (eP3 eI eI eI)) (xs := s347) 2 rfl (pv 2) (e_tupG (enc := (eP3 eI eI eI)) (g := fun z : Int × Int × Int × Unit => (z.1, z.2.1, z.2.2.1)) (a_cons (e_var (z := place348) (enc := eI) 3 rfl (pv 3)) (a_cons (e_var (z := before349) (enc := eI) 4 rfl (pv 4)) (a_cons (e_var (z := after350) (enc := eI) 5 rfl (pv 5)) a_nil))) (fun _ => rfl) (fun _ => small_line (by show 3 ≤ 1000; decide))) (fun changes351 => (ss_nil (b := changes351) (wk_e (wk_e (wk_e (wk_u (wk_u (wk_u wk_n)))))))) Wk.nil (pe_bm PySem.F.plainAttrs_list PySem.F.slot_list_append PySem.F.type_list_append mt_append (pv 2) (pa_cons (e_tupG (enc := (eP3 eI eI eI)) (g := fun z : Int × Int × Int × Unit => (z.1, z.2.1, z.2.2.1)) (a_cons (e_var (z := place348) (enc := eI) 3 rfl (pv 3)) (a_cons (e_var (z := before349) (enc := eI) 4 rfl (pv 4)) (a_cons (e_var (z := after350) (enc := eI) 5 rfl (pv 5)) a_nil))) (fun _ => rfl) (fun _ => small_line (by show 3 ≤ 1000; decide))) pa_nil))) (ss_nil (b := s347) (wk_e (wk_e (wk_e (wk_u (wk_u (wk_u wk_n))))))) Wk.nil)) Wk.nil)) Wk.nil)) (fun s352 => (ss_retV (r := s352) 2 rfl rfl (pv 2))))) Wk.nil) (by simp only [mbk, mba, sqk, sqa, c_changes_of]))
theorem ok_Beads___init___v1 (T : Tx K mg ca fa fd) : FnOk P w K mg base (L2N.CX P w) 4 (fa 7) (fd 7) ["self", "strengths", "lengths", "ring"] (spN K ca "Beads" (xL eI (xC (eT eI) (xC eB xN))) fun a => mb (f_Beads___init___v1 a.1 a.2.1 a.2.2.1) fun r => .ok (fB r)) :=
  fn_I (fn_init (k := 3) (n := 1) (Nx := fun p _ b => [.nw p "Beads" (fB b)]) (L := fun _ (_ : Empty) => []) (R := fun _ : Unit => .fr .non) (Fl := fB) (encA := (xL eI (xC (eT eI) (xC eB xN)))) (code := fun a => c_Beads___init___v1 a.1 a.2.1 a.2.2.1) T.F_Beads___init__ sc_Beads___init__ (fun _ => rfl) rfl (fun _ _ _ => rfl) fun cdv A outer s G H E a p C => by
    obtain ⟨strengths, lengths, ring, u0⟩ := a
    show DSs _ _ [.nw p "Beads" [], .ln (List.map eI strengths), .fr ((eT eI) lengths), .fr (eB ring), .un] _ _ _ _ _
    exact ss_eq (ss_sfld (enc := (eT eI)) 0 rfl (pv 0) T.cl_Beads T.na_Beads_strengths (by show (0 : Nat) < 1000; decide) (e_tuple (enc := eI) T.n_tuple (pa_cons (l_var (z := strengths) (enc := eI) 1 rfl (pv 1)) pa_nil)) (fun strengths372 => (ss_ifJF (N := fun (j375 : (List Int)) => [.nw p "Beads" [("strengths", (eT eI) strengths372), ("lengths", (eT eI) j375)], .ln (List.map eI strengths), .fr ((eT eI) lengths), .fr (eB ring), .un]) (t_cmp (c_isF (fun _ h => by cases h)) (b_e (e_var (z := lengths) (enc := (eT eI)) 2 rfl (pv 2))) (b_e e_non) rfl) (ss_sfld (enc := (eT eI)) 0 rfl (pv 0) T.cl_Beads T.na_Beads_lengths (by show (1 : Nat) < 1000; decide) (e_tupleT (enc := eI) T.n_tuple (pa_cons (e_var (z := lengths) (enc := (eT eI)) 2 rfl (pv 2)) pa_nil)) (fun lengths374 => (ss_nil (b := lengths374) (wk_e (wk_e (wk_e (wk_e (wk_u wk_n))))))) Wk.nil) (fun j375 => (ss_sfld (enc := eB) 0 rfl (pv 0) T.cl_Beads T.na_Beads_ring (by show (2 : Nat) < 1000; decide) (e_var (z := ring) (enc := eB) 3 rfl (pv 3)) (fun ring376 => (ss_ifX (t_w (w_orP (t_cmp (c_eqD (pd_tup pd_int) (by decide) C.room.units) (b_e (e_sfld (z := strengths372) (enc := (eT eI)) 0 rfl (pv 0) T.cl_Beads T.na_Beads_strengths (by rfl))) (b_e (e_tupH (enc := eI) (g := fun _ => []) a_nil (fun _ => rfl) (fun _ => small_line (Nat.zero_le _)))) rfl) (w_or1 (t_cmp c_ne (b_e (e_lenT (enc := eI) T.n_len (pa_cons (e_sfld (z := j375) (enc := (eT eI)) 0 rfl (pv 0) T.cl_Beads T.na_Beads_lengths (by rfl)) pa_nil))) (b_e (e_lenT (enc := eI) T.n_len (pa_cons (e_sfld (z := strengths372) (enc := (eT eI)) 0 rfl (pv 0) T.cl_Beads T.na_Beads_strengths (by rfl)) pa_nil))) rfl)) rfl)) (ss_raise1 (enc := eI) C (by decide) T.x_BadBeads (okI_BadBeads T) T.xb_BadBeads (pa_cons (e_neg e_int) pa_nil) Wk.nil) (nn_mb fun _ => nn_er) (ss_for (L := fun (s377 : Unit) => [.nw p "Beads" [("strengths", (eT eI) strengths372), ("lengths", (eT eI) j375), ("ring", eB ring376)], .ln (List.map eI strengths), .fr ((eT eI) lengths), .fr (eB ring), .un]) () C (i_range1 rfl T.n_range (pa_cons (e_lenT (enc := eI) T.n_len (pa_cons (e_sfld (z := strengths372) (enc := (eT eI)) 0 rfl (pv 0) T.cl_Beads T.na_Beads_strengths (by rfl)) pa_nil)) pa_nil)) (g_name (enc := eI) (i := 4) C.nd) (wk_e (wk_e (wk_e (wk_e (wk_u wk_n))))) Wk.nil (fun place378 s377 => (ss_ifX (t_w (w_or (t_cmp c_lt (b_e (e_ixT (enc := eI) (e_sfld (z := strengths372) (enc := (eT eI)) 0 rfl (pv 0) T.cl_Beads T.na_Beads_strengths (by rfl)) (e_var (z := place378) (enc := eI) 4 rfl (pv 4)))) (b_e e_int) rfl) (w_or1 (t_cmp c_lt (b_e (e_ixT (enc := eI) (e_sfld (z := j375) (enc := (eT eI)) 0 rfl (pv 0) T.cl_Beads T.na_Beads_lengths (by rfl)) (e_var (z := place378) (enc := eI) 4 rfl (pv 4)))) (b_e e_int) rfl)))) (ss_raise1 (enc := eI) C (by decide) T.x_BadBeads (okI_BadBeads T) T.xb_BadBeads (pa_cons (e_var (z := place378) (enc := eI) 4 rfl (pv 4)) pa_nil) Wk.nil) (nn_mb fun _ => nn_er) (ss_nil (b := ()) (wk_e (wk_e (wk_e (wk_e (wk_u wk_n)))))) Wk.nil)) (fun s383 => (ss_nil (b := (⟨strengths372, j375, ring376⟩ : BV)) (wk_e wk_n)))) Wk.nil)) Wk.nil)) Wk.nil)) Wk.nil) (by simp only [mbk, mba, sqk, sqa, c_Beads___init___v1])) fun _ => rfl
theorem ok_replaced (T : Tx K mg ca fa fd) : FnOk P w K mg base (L2N.CX P w) 6 (fa 15) (fd 15) ["beads", "changes"] (spE K ca (xC eBeads (xL (eP3 eI eI eI) xN)) eBeads fun a => f_replaced a.1 a.2.1) :=
  fn_E (d := .no) (fn_ok (k := 5) (n := 4) (Nx := fun _ _ => []) (L := fun _ (_ : Empty) => []) (R := fun r : BV => .fr (eBeads r)) (encA := (xC eBeads (xL (eP3 eI eI eI) xN))) (code := fun a => c_replaced a.1 a.2.1) T.F_replaced sc_replaced (fun _ => rfl) rfl fun cdv A outer s G H E a C => by
    obtain ⟨beads, changes, u0⟩ := a
    show DSs _ _ [.fr (eBeads beads), .ln (List.map (eP3 eI eI eI) changes), .un, .un, .un, .un] _ _ _ _ _
    exact ss_eq (ss_asgO (i := 2) C.nd (o_listT (enc := eI) T.n_list (pa_cons (e_fld (g := fun z : BV => z.strengths) (enb := (eT eI)) (e_var (z := beads) (enc := eBeads) 0 rfl (pv 0)) T.cl_Beads T.na_Beads_strengths fC_Beads_strengths) pa_nil)) (fun strengths385 => (ss_for (L := fun (s386 : List Int) => [.fr (eBeads beads), .ln (List.map (eP3 eI eI eI) changes), .ow (List.map eI s386), .un, .un, .un]) strengths385 C (i_ln (enc := (eP3 eI eI eI)) (z := changes) 1 rfl (pv 1)) (g_tup (enc := (eP3 eI eI eI)) C.calm (gs_cons (d := fun z : (Int × Int × Int) => eI z.1) (i := 3) C.nd (gs_cons (d := fun z : (Int × Int × Int) => eI z.2.1) (i := 4) C.nd (gs_cons (d := fun z : (Int × Int × Int) => eI z.2.2) (i := 5) C.nd (gs_nil (β := (Int × Int × Int)))))) (fun _ => rfl) (fun _ => rfl)) (wk_e (wk_e (wk_e (wk_u (wk_u (wk_u wk_n)))))) Wk.nil (fun x387 s386 => (ss_put (enc := eI) (xs := s386) 2 rfl (pv 2) (e_var (z := x387.2.2) (enc := eI) 5 rfl (pv 5)) (e_var (z := x387.1) (enc := eI) 3 rfl (pv 3)) (fun strengths388 => (ss_nil (b := strengths388) (wk_e (wk_e (wk_e (wk_u (wk_u (wk_u wk_n)))))))) Wk.nil)) (fun s389 => (ss_ret (enc := eBeads) (g := fun z => z) (e_make C (by decide) (fun _ _ _ _ _ h => h) T.mk_Beads (ok_Beads___init___v1 T) T.g_Beads T.kb_Beads_3_ring (x_consL (b_var (z := s389) (enc := eI) 2 rfl (pv 2)) (x_cons (e_fld (g := fun z : BV => z.lengths) (enb := (eT eI)) (e_var (z := beads) (enc := eBeads) 0 rfl (pv 0)) T.cl_Beads T.na_Beads_lengths fC_Beads_lengths) x_nil)) (k_cons (e_fld (g := fun z : BV => z.ring) (enb := eB) (e_var (z := beads) (enc := eBeads) 0 rfl (pv 0)) T.cl_Beads T.na_Beads_ring fC_Beads_ring) k_nil) (fun _ => rfl) (fun _ => rfl) (a3 (mk := fun (z : _ × _ × Unit) (y : _ × Unit) => (z.1, z.2.1, y.1, ())) fun _ _ => rfl)) Wk.nil (fun _ => rfl))))) Wk.nil) (by simp only [mbk, mba, sqk, sqa, c_replaced])) (.inl rfl)
theorem ok_wake (T : Tx K mg ca fa fd) : FnOk P w K mg base (L2N.CX P w) 8 (fa 16) (fd 16) ["beads", "handful"] (spE K ca (xC eBeads (xL eI xN)) eBeads fun a => f_wake a.1 a.2.1) :=
  fn_E (d := .no) (fn_ok (k := 7) (n := 0) (Nx := fun _ _ => []) (L := fun _ (_ : Empty) => []) (R := fun r : BV => .fr (eBeads r)) (encA := (xC eBeads (xL eI xN))) (code := fun a => c_wake a.1 a.2.1) T.F_wake sc_wake (fun _ => rfl) rfl fun cdv A outer s G H E a C => by
    obtain ⟨beads, handful, u0⟩ := a
    show DSs _ _ [.fr (eBeads beads), .ln (List.map eI handful)] _ _ _ _ _
    exact ss_eq (ss_ret (enc := eBeads) (g := fun z => z) (e_call C (by decide) (ok_replaced T) T.g_replaced T.k_replaced T.b_replaced (x_cons (e_var (z := beads) (enc := eBeads) 0 rfl (pv 0)) (x_consL (b_e (e_o (o_call C (by decide) (ok_changes_of T) T.g_changes_of T.k_changes_of T.b_changes_of (x_cons (e_var (z := beads) (enc := eBeads) 0 rfl (pv 0)) (x_consL (l_var (z := handful) (enc := eI) 1 rfl (pv 1)) x_nil))))) x_nil))) Wk.nil (fun _ => rfl)) (by simp only [mbk, mba, sqk, sqa, c_wake])) (.inl rfl)
theorem ok_woken_once (T : Tx K mg ca fa fd) : FnOk P w K mg base (L2N.CX P w) 9 (fa 17) (fd 17) ["lengths", "order", "ring"] (spE K ca (xL eI (xL eI (xC eB xN))) eBeads fun a => f_woken_once a.1 a.2.1 a.2.2.1) :=
  fn_E (d := .no) (fn_okD (k := 8) (n := 2) (Nx := fun _ _ => []) (L := fun _ (_ : Empty) => []) (R := fun r : BV => .fr (eBeads r)) (encA := (xL eI (xL eI (xC eB xN)))) (code := fun a => c_woken_once a.1 a.2.1 a.2.2.1) T.F_woken_once sc_woken_once (fun _ => rfl) rfl fun cdv A outer s G H E a C => by
    obtain ⟨lengths, order, ring, u0⟩ := a
    show DSs _ _ [.ln (List.map eI lengths), .ln (List.map eI order), .fr (eB ring), .un, .un] _ _ _ _ _
    exact ss_eq (ss_expr (enc := eU) (e_call C (by decide) (ok_check_order T) T.g_check_order T.k_check_order T.b_check_order (x_consL (l_var (z := order) (enc := eI) 1 rfl (pv 1)) (x_cons (e_lenL (enc := eI) T.n_len (pa_cons (l_var (z := lengths) (enc := eI) 0 rfl (pv 0)) pa_nil)) x_nil))) (ss_asg (enc := eBeads) (i := 3) C.nd (e_make C (by decide) (fun _ _ _ _ _ h => h) T.mk_Beads (ok_Beads___init__ T) T.g_Beads T.kb_Beads_3_ring (x_consL (b_e (e_o (o_rep (enc := eI) (b_e (e_o (o_lst (enc := eI) (g := fun z : Int × Unit => [z.1]) (a_cons (e_sum C.calm T.n_sum (pa_cons (l_var (z := lengths) (enc := eI) 0 rfl (pv 0)) pa_nil)) a_nil) (fun _ => rfl) (fun _ => small_line (by show 1 ≤ 1000; decide))))) (e_lenL (enc := eI) T.n_len (pa_cons (l_var (z := lengths) (enc := eI) 0 rfl (pv 0)) pa_nil))))) (x_consL (l_var (z := lengths) (enc := eI) 0 rfl (pv 0)) x_nil)) (k_cons (e_var (z := ring) (enc := eB) 2 rfl (pv 2)) k_nil) (fun _ => rfl) (fun _ => rfl) (a3 (mk := fun (z : _ × _ × Unit) (y : _ × Unit) => (z.1, z.2.1, y.1, ())) fun _ _ => rfl)) (fun beads398 => (ss_for (L := fun (s399 : BV) => [.ln (List.map eI lengths), .ln (List.map eI order), .fr (eB ring), .fr (eBeads s399), .un]) beads398 C (i_ln (enc := eI) (z := order) 1 rfl (pv 1)) (g_name (enc := eI) (i := 4) C.nd) (wk_e (wk_e (wk_e (wk_e (wk_u wk_n))))) Wk.nil (fun place400 s399 => (ss_asg (enc := eBeads) (i := 3) C.nd (e_call C (by decide) (ok_wake T) T.g_wake T.k_wake T.b_wake (x_cons (e_var (z := s399) (enc := eBeads) 3 rfl (pv 3)) (x_consL (b_e (e_o (o_lst (enc := eI) (g := fun z : Int × Unit => [z.1]) (a_cons (e_var (z := place400) (enc := eI) 4 rfl (pv 4)) a_nil) (fun _ => rfl) (fun _ => small_line (by show 1 ≤ 1000; decide))))) x_nil))) (fun beads401 => (ss_nil (b := beads401) (wk_e (wk_e (wk_e (wk_e (wk_u wk_n))))))) Wk.nil)) (fun s402 => (ss_ret (enc := eBeads) (g := fun z => z) (e_var (z := s402) (enc := eBeads) 3 rfl (pv 3)) Wk.nil (fun _ => rfl))))) Wk.nil) Wk.nil) (by simp only [mbk, mba, sqk, sqa, c_woken_once])) (.inl rfl)
theorem ok__law_is_integer (T : Tx K mg ca fa fd) : FnOk P w K mg base (L2N.CX P w) 1 (fa 18) (fd 18) ["actual"] (spE K ca (xC eI xN) eB fun a => f__law_is_integer a.1) :=
  fn_E (d := .no) (fn_ok (k := 0) (n := 0) (Nx := fun _ _ => []) (L := fun _ (_ : Empty) => []) (R := fun r : Bool => .fr (eB r)) (encA := (xC eI xN)) (code := fun a => c__law_is_integer a.1) T.F__law_is_integer sc__law_is_integer (fun _ => rfl) rfl fun cdv A outer s G H E a C => by
    obtain ⟨actual, u0⟩ := a
    show DSs _ _ [.fr (eI actual)] _ _ _ _ _
    exact ss_eq (ss_ret (enc := eB) (g := fun z => z) (e_andP (e_isi T.n_isinstance (.ty "int") (ty_int (r := true) (by decide +kernel)) (pa_cons (b_e (e_var (z := actual) (enc := eI) 0 rfl (pv 0))) (pa_cons (pe_bltn (v := .ty "int") rfl T.n_int boot_int rfl) pa_nil))) (e_one (e_not (e_isi T.n_isinstance (.ty "bool") (ty_int (r := false) (by decide +kernel)) (pa_cons (b_e (e_var (z := actual) (enc := eI) 0 rfl (pv 0))) (pa_cons (pe_bltn (v := .ty "bool") rfl T.n_bool boot_bool rfl) pa_nil))))) rfl) Wk.nil (fun _ => rfl)) (by simp only [mbk, mba, sqk, sqa, c__law_is_integer])) (.inl rfl)
theorem ok__law_numbers (T : Tx K mg ca fa fd) : FnOk P w K mg base (L2N.CX P w) 2 (fa 19) (fd 19) ["actual", "due", "as_tuple"] (spE K ca (xC (eT eI) (xL eI (xC eB xN))) eB fun a => f__law_numbers a.1 a.2.1 a.2.2.1) :=
  fn_E (d := .no) (fn_ok (k := 1) (n := 1) (Nx := fun _ _ => []) (L := fun _ (_ : Empty) => []) (R := fun r : Bool => .fr (eB r)) (encA := (xC (eT eI) (xL eI (xC eB xN)))) (code := fun a => c__law_numbers a.1 a.2.1 a.2.2.1) T.F__law_numbers sc__law_numbers (fun _ => rfl) rfl fun cdv A outer s G H E a C => by
    obtain ⟨actual, due, as_tuple, u0⟩ := a
    show DSs _ _ [.fr ((eT eI) actual), .ln (List.map eI due), .fr (eB as_tuple), .un] _ _ _ _ _
    exact ss_eq (ss_ifX (t_w (w_orP (t_w (w_andP (t_val (e_var (z := as_tuple) (enc := eB) 2 rfl (pv 2))) (w_and1 (t_not (t_val (e_isi T.n_isinstance (.ty "tuple") (ty_tup (r := true) (by decide +kernel)) (pa_cons (b_e (e_var (z := actual) (enc := (eT eI)) 0 rfl (pv 0))) (pa_cons (pe_bltn (v := .ty "tuple") rfl T.n_tuple boot_tuple rfl) pa_nil)))))) rfl)) (w_or1 (t_w (w_andP (t_not (t_val (e_var (z := as_tuple) (enc := eB) 2 rfl (pv 2)))) (w_and1 (t_not (t_val (e_isi T.n_isinstance (.ty "list") (ty_tup (r := false) (by decide +kernel)) (pa_cons (b_e (e_var (z := actual) (enc := (eT eI)) 0 rfl (pv 0))) (pa_cons (pe_bltn (v := .ty "list") rfl T.n_list boot_list rfl) pa_nil)))))) rfl))) rfl)) (ss_ret (enc := eB) (g := fun z => z) e_bl Wk.nil (fun _ => rfl)) (nn_mb fun _ => nn_rt) (ss_ifX (t_cmp c_ne (b_e (e_lenT (enc := eI) T.n_len (pa_cons (e_var (z := actual) (enc := (eT eI)) 0 rfl (pv 0)) pa_nil))) (b_e (e_lenL (enc := eI) T.n_len (pa_cons (l_var (z := due) (enc := eI) 1 rfl (pv 1)) pa_nil))) rfl) (ss_ret (enc := eB) (g := fun z => z) e_bl Wk.nil (fun _ => rfl)) (nn_mb fun _ => nn_rt) (ss_for (L := fun (s415 : Unit) => [.fr ((eT eI) actual), .ln (List.map eI due), .fr (eB as_tuple), .un]) () C (i_range1 rfl T.n_range (pa_cons (e_lenL (enc := eI) T.n_len (pa_cons (l_var (z := due) (enc := eI) 1 rfl (pv 1)) pa_nil)) pa_nil)) (g_name (enc := eI) (i := 3) C.nd) (wk_e (wk_e (wk_e (wk_u wk_n)))) Wk.nil (fun k416 s415 => (ss_ifX (t_w (w_or (t_not (t_val (e_call C (by decide) (ok__law_is_integer T) T.g__law_is_integer T.k__law_is_integer T.b__law_is_integer (x_cons (e_ixT (enc := eI) (e_var (z := actual) (enc := (eT eI)) 0 rfl (pv 0)) (e_var (z := k416) (enc := eI) 3 rfl (pv 3))) x_nil)))) (w_or1 (t_cmp c_ne (b_e (e_ixT (enc := eI) (e_var (z := actual) (enc := (eT eI)) 0 rfl (pv 0)) (e_var (z := k416) (enc := eI) 3 rfl (pv 3)))) (b_e (e_ixL (enc := eI) (l_var (z := due) (enc := eI) 1 rfl (pv 1)) (e_var (z := k416) (enc := eI) 3 rfl (pv 3)))) rfl)))) (ss_ret (enc := eB) (g := fun z => z) e_bl Wk.nil (fun _ => rfl)) (nn_mb fun _ => nn_rt) (ss_nil (b := ()) (wk_e (wk_e (wk_e (wk_u wk_n))))) Wk.nil)) (fun s423 => (ss_ret (enc := eB) (g := fun z => z) e_bl Wk.nil (fun _ => rfl)))) Wk.nil) Wk.nil) (by simp only [mbk, mba, sqk, sqa, c__law_numbers])) (.inl rfl)
theorem ok__law_is_standing (T : Tx K mg ca fa fd) : FnOk P w K mg base (L2N.CX P w) 3 (fa 20) (fd 20) ["actual", "round_flag", "sizes", "strengths"] (spE K ca (xC eBeads (xC eB (xL eI (xL eI xN)))) eB fun a => f__law_is_standing a.1 a.2.1 a.2.2.1 a.2.2.2.1) :=
  fn_E (d := .no) (fn_ok (k := 2) (n := 0) (Nx := fun _ _ => []) (L := fun _ (_ : Empty) => []) (R := fun r : Bool => .fr (eB r)) (encA := (xC eBeads (xC eB (xL eI (xL eI xN))))) (code := fun a => c__law_is_standing a.1 a.2.1 a.2.2.1 a.2.2.2.1) T.F__law_is_standing sc__law_is_standing (fun _ => rfl) rfl fun cdv A outer s G H E a C => by
    obtain ⟨actual, round_flag, sizes, strengths, u0⟩ := a
    show DSs _ _ [.fr (eBeads actual), .fr (eB round_flag), .ln (List.map eI sizes), .ln (List.map eI strengths)] _ _ _ _ _
    exact ss_eq (ss_ifX (t_w (w_orP (t_not (t_val (e_isi T.n_isinstance (.own (ca "Beads")) (ty_obj (enc := eBeads) T.is_Beads (fun _ => rfl) kit_self) (pa_cons (b_e (e_var (z := actual) (enc := eBeads) 0 rfl (pv 0))) (pa_cons (pe_glob rfl T.g_Beads rfl) pa_nil))))) (w_orP (t_not (t_val (e_isi T.n_isinstance (.ty "bool") (ty_bl (r := true) (by decide +kernel)) (pa_cons (b_e (e_fld (g := fun z : BV => z.ring) (enb := eB) (e_var (z := actual) (enc := eBeads) 0 rfl (pv 0)) T.cl_Beads T.na_Beads_ring fC_Beads_ring)) (pa_cons (pe_bltn (v := .ty "bool") rfl T.n_bool boot_bool rfl) pa_nil))))) (w_or1 (t_cmp c_neB (b_e (e_fld (g := fun z : BV => z.ring) (enb := eB) (e_var (z := actual) (enc := eBeads) 0 rfl (pv 0)) T.cl_Beads T.na_Beads_ring fC_Beads_ring)) (b_e (e_var (z := round_flag) (enc := eB) 1 rfl (pv 1))) rfl)) rfl) rfl)) (ss_ret (enc := eB) (g := fun z => z) e_bl Wk.nil (fun _ => rfl)) (nn_mb fun _ => nn_rt) (ss_ret (enc := eB) (g := fun z => z) (e_and (e_call C (by decide) (ok__law_numbers T) T.g__law_numbers T.k__law_numbers T.b__law_numbers (x_cons (e_fld (g := fun z : BV => z.lengths) (enb := (eT eI)) (e_var (z := actual) (enc := eBeads) 0 rfl (pv 0)) T.cl_Beads T.na_Beads_lengths fC_Beads_lengths) (x_consL (l_var (z := sizes) (enc := eI) 2 rfl (pv 2)) (x_cons e_bl x_nil)))) (e_one (e_call C (by decide) (ok__law_numbers T) T.g__law_numbers T.k__law_numbers T.b__law_numbers (x_cons (e_fld (g := fun z : BV => z.strengths) (enb := (eT eI)) (e_var (z := actual) (enc := eBeads) 0 rfl (pv 0)) T.cl_Beads T.na_Beads_strengths fC_Beads_strengths) (x_consL (l_var (z := strengths) (enc := eI) 3 rfl (pv 3)) (x_cons e_bl x_nil)))))) Wk.nil (fun _ => rfl)) Wk.nil) (by simp only [mbk, mba, sqk, sqa, c__law_is_standing])) (.inl rfl)
theorem ok_Beads_total (T : Tx K mg ca fa fd) : FnOk P w K mg base (L2N.CX P w) 1 (fa 21) (fd 21) ["self"] (spE K ca (xC eBeads xN) eI fun a => f_Beads_total a.1) :=
  fn_E (d := .no) (fn_ok (k := 0) (n := 0) (Nx := fun _ _ => []) (L := fun _ (_ : Empty) => []) (R := fun r : Int => .fr (eI r)) (encA := (xC eBeads xN)) (code := fun a => c_Beads_total a.1) T.F_Beads_total sc_Beads_total (fun _ => rfl) rfl fun cdv A outer s G H E a C => by
    obtain ⟨self, u0⟩ := a
    show DSs _ _ [.fr (eBeads self)] _ _ _ _ _
    exact ss_eq (ss_ret (enc := eI) (g := fun z => z) (e_sumT C.calm T.n_sum (pa_cons (e_fld (g := fun z : BV => z.lengths) (enb := (eT eI)) (e_var (z := self) (enc := eBeads) 0 rfl (pv 0)) T.cl_Beads T.na_Beads_lengths fC_Beads_lengths) pa_nil)) Wk.nil (fun _ => rfl)) (by simp only [mbk, mba, sqk, sqa, c_Beads_total])) (.inl rfl)
theorem ok_Beads_greatest (T : Tx K mg ca fa fd) : FnOk P w K mg base (L2N.CX P w) 1 (fa 22) (fd 22) ["self"] (spE K ca (xC eBeads xN) eI fun a => f_Beads_greatest a.1) :=
  fn_E (d := .no) (fn_ok (k := 0) (n := 0) (Nx := fun _ _ => []) (L := fun _ (_ : Empty) => []) (R := fun r : Int => .fr (eI r)) (encA := (xC eBeads xN)) (code := fun a => c_Beads_greatest a.1) T.F_Beads_greatest sc_Beads_greatest (fun _ => rfl) rfl fun cdv A outer s G H E a C => by
    obtain ⟨self, u0⟩ := a
    show DSs _ _ [.fr (eBeads self)] _ _ _ _ _
    exact ss_eq (ss_ret (enc := eI) (g := fun z => z) (e_maxT C.calm (by have := C.room.units; omega) T.n_max (pa_cons (e_fld (g := fun z : BV => z.strengths) (enb := (eT eI)) (e_var (z := self) (enc := eBeads) 0 rfl (pv 0)) T.cl_Beads T.na_Beads_strengths fC_Beads_strengths) pa_nil)) Wk.nil (fun _ => rfl)) (by simp only [mbk, mba, sqk, sqa, c_Beads_greatest])) (.inl rfl)
theorem ok__law_numbers_v1 (T : Tx K mg ca fa fd) : FnOk P w K mg base (L2N.CX P w) 2 (fa 19) (fd 19) ["actual", "due", "as_tuple"] (spE K ca (xL eI (xL eI (xC eB xN))) eB fun a => f__law_numbers_v1 a.1 a.2.1 a.2.2.1) :=
  fn_E (d := .no) (fn_ok (k := 1) (n := 1) (Nx := fun _ _ => []) (L := fun _ (_ : Empty) => []) (R := fun r : Bool => .fr (eB r)) (encA := (xL eI (xL eI (xC eB xN)))) (code := fun a => c__law_numbers_v1 a.1 a.2.1 a.2.2.1) T.F__law_numbers sc__law_numbers (fun _ => rfl) rfl fun cdv A outer s G H E a C => by
    obtain ⟨actual, due, as_tuple, u0⟩ := a
    show DSs _ _ [.ln (List.map eI actual), .ln (List.map eI due), .fr (eB as_tuple), .un] _ _ _ _ _
    exact ss_eq (ss_ifX (t_w (w_orP (t_w (w_andP (t_val (e_var (z := as_tuple) (enc := eB) 2 rfl (pv 2))) (w_and1 (t_not (t_val (e_isi T.n_isinstance (.ty "tuple") (ty_lst (r := false) (by decide +kernel)) (pa_cons (l_var (z := actual) (enc := eI) 0 rfl (pv 0)) (pa_cons (pe_bltn (v := .ty "tuple") rfl T.n_tuple boot_tuple rfl) pa_nil)))))) rfl)) (w_or1 (t_w (w_andP (t_not (t_val (e_var (z := as_tuple) (enc := eB) 2 rfl (pv 2)))) (w_and1 (t_not (t_val (e_isi T.n_isinstance (.ty "list") (ty_lst (r := true) (by decide +kernel)) (pa_cons (l_var (z := actual) (enc := eI) 0 rfl (pv 0)) (pa_cons (pe_bltn (v := .ty "list") rfl T.n_list boot_list rfl) pa_nil)))))) rfl))) rfl)) (ss_ret (enc := eB) (g := fun z => z) e_bl Wk.nil (fun _ => rfl)) (nn_mb fun _ => nn_rt) (ss_ifX (t_cmp c_ne (b_e (e_lenL (enc := eI) T.n_len (pa_cons (l_var (z := actual) (enc := eI) 0 rfl (pv 0)) pa_nil))) (b_e (e_lenL (enc := eI) T.n_len (pa_cons (l_var (z := due) (enc := eI) 1 rfl (pv 1)) pa_nil))) rfl) (ss_ret (enc := eB) (g := fun z => z) e_bl Wk.nil (fun _ => rfl)) (nn_mb fun _ => nn_rt) (ss_for (L := fun (s443 : Unit) => [.ln (List.map eI actual), .ln (List.map eI due), .fr (eB as_tuple), .un]) () C (i_range1 rfl T.n_range (pa_cons (e_lenL (enc := eI) T.n_len (pa_cons (l_var (z := due) (enc := eI) 1 rfl (pv 1)) pa_nil)) pa_nil)) (g_name (enc := eI) (i := 3) C.nd) (wk_e (wk_e (wk_e (wk_u wk_n)))) Wk.nil (fun k444 s443 => (ss_ifX (t_w (w_or (t_not (t_val (e_call C (by decide) (ok__law_is_integer T) T.g__law_is_integer T.k__law_is_integer T.b__law_is_integer (x_cons (e_ixL (enc := eI) (l_var (z := actual) (enc := eI) 0 rfl (pv 0)) (e_var (z := k444) (enc := eI) 3 rfl (pv 3))) x_nil)))) (w_or1 (t_cmp c_ne (b_e (e_ixL (enc := eI) (l_var (z := actual) (enc := eI) 0 rfl (pv 0)) (e_var (z := k444) (enc := eI) 3 rfl (pv 3)))) (b_e (e_ixL (enc := eI) (l_var (z := due) (enc := eI) 1 rfl (pv 1)) (e_var (z := k444) (enc := eI) 3 rfl (pv 3)))) rfl)))) (ss_ret (enc := eB) (g := fun z => z) e_bl Wk.nil (fun _ => rfl)) (nn_mb fun _ => nn_rt) (ss_nil (b := ()) (wk_e (wk_e (wk_e (wk_u wk_n))))) Wk.nil)) (fun s451 => (ss_ret (enc := eB) (g := fun z => z) e_bl Wk.nil (fun _ => rfl)))) Wk.nil) Wk.nil) (by simp only [mbk, mba, sqk, sqa, c__law_numbers_v1])) (.inl rfl)
theorem ok_check_ring (T : Tx K mg ca fa fd) : FnOk P w K mg base (L2N.CX P w) 4 (fa 23) (fd 23) ["beads"] (spE K ca (xC eBeads xN) eU fun a => f_check_ring a.1) :=
  fn_E (d := (.ok ())) (fn_ok (k := 3) (n := 0) (Nx := fun _ _ => []) (L := fun _ (_ : Empty) => []) (R := fun r : Unit => .fr (eU r)) (encA := (xC eBeads xN)) (code := fun a => c_check_ring a.1) T.F_check_ring sc_check_ring (fun _ => rfl) rfl fun cdv A outer s G H E a C => by
    obtain ⟨beads, u0⟩ := a
    show DSs _ _ [.fr (eBeads beads)] _ _ _ _ _
    exact ss_eq (ss_ifX (t_not (t_val (e_fld (g := fun z : BV => z.ring) (enb := eB) (e_var (z := beads) (enc := eBeads) 0 rfl (pv 0)) T.cl_Beads T.na_Beads_ring fC_Beads_ring))) (ss_raise1 (enc := eB) C (by decide) T.x_WrongKind (okI_WrongKind T) T.xb_WrongKind (pa_cons e_bl pa_nil) Wk.nil) (nn_mb fun _ => nn_er) (ss_nil (b := ()) Wk.nil) Wk.nil) (by simp only [mbk, mba, sqk, sqa, c_check_ring])) (.inr ⟨_, rfl, rfl⟩)
theorem ok_check_tall (T : Tx K mg ca fa fd) : FnOk P w K mg base (L2N.CX P w) 5 (fa 24) (fd 24) ["beads"] (spE K ca (xC eBeads xN) eU fun a => f_check_tall a.1) :=
  fn_E (d := (.ok ())) (fn_ok (k := 4) (n := 0) (Nx := fun _ _ => []) (L := fun _ (_ : Empty) => []) (R := fun r : Unit => .fr (eU r)) (encA := (xC eBeads xN)) (code := fun a => c_check_tall a.1) T.F_check_tall sc_check_tall (fun _ => rfl) rfl fun cdv A outer s G H E a C => by
    obtain ⟨beads, u0⟩ := a
    show DSs _ _ [.fr (eBeads beads)] _ _ _ _ _
    exact ss_eq (ss_expr (enc := eU) (e_call C (by decide) (ok_check_ring T) T.g_check_ring T.k_check_ring T.b_check_ring (x_cons (e_var (z := beads) (enc := eBeads) 0 rfl (pv 0)) x_nil)) (ss_ifX (t_cmp c_lt (b_e (e_meth0 C (by decide) (e_var (z := beads) (enc := eBeads) 0 rfl (pv 0)) T.cl_Beads T.m_Beads_greatest (ok_Beads_greatest T) T.b_Beads_greatest (fun _ => ⟨rfl, by rfl⟩) denF_none)) (b_e (e_meth0 C (by decide) (e_var (z := beads) (enc := eBeads) 0 rfl (pv 0)) T.cl_Beads T.m_Beads_total (ok_Beads_total T) T.b_Beads_total (fun _ => ⟨rfl, by rfl⟩) denF_none)) rfl) (ss_raise2 (enc := eI) (enb := eI) C (by decide) T.x_NotTall (okI_NotTall T) T.xb_NotTall (pa_cons (e_meth0 C (by decide) (e_var (z := beads) (enc := eBeads) 0 rfl (pv 0)) T.cl_Beads T.m_Beads_greatest (ok_Beads_greatest T) T.b_Beads_greatest (fun _ => ⟨rfl, by rfl⟩) denF_none) (pa_cons (e_meth0 C (by decide) (e_var (z := beads) (enc := eBeads) 0 rfl (pv 0)) T.cl_Beads T.m_Beads_total (ok_Beads_total T) T.b_Beads_total (fun _ => ⟨rfl, by rfl⟩) denF_none) pa_nil)) Wk.nil) (nn_mb fun _ => nn_mb fun _ => nn_er) (ss_nil (b := ()) Wk.nil) Wk.nil) Wk.nil) (by simp only [mbk, mba, sqk, sqa, c_check_tall])) (.inr ⟨_, rfl, rfl⟩)
theorem ok_can_lead (T : Tx K mg ca fa fd) : FnOk P w K mg base (L2N.CX P w) 6 (fa 25) (fd 25) ["beads"] (spO K ca (xC eBeads xN) eI fun a => f_can_lead a.1) :=
  fn_O (fn_ok (k := 5) (n := 2) (Nx := fun _ _ => []) (L := fun _ (_ : Empty) => []) (R := fun r : (List Int) => .ow (r.map eI)) (encA := (xC eBeads xN)) (code := fun a => c_can_lead a.1) T.F_can_lead sc_can_lead (fun _ => rfl) rfl fun cdv A outer s G H E a C => by
    obtain ⟨beads, u0⟩ := a
    show DSs _ _ [.fr (eBeads beads), .un, .un] _ _ _ _ _
    exact ss_eq (ss_expr (enc := eU) (e_call C (by decide) (ok_check_tall T) T.g_check_tall T.k_check_tall T.b_check_tall (x_cons (e_var (z := beads) (enc := eBeads) 0 rfl (pv 0)) x_nil)) (ss_asg (enc := eI) (i := 1) C.nd (e_meth0 C (by decide) (e_var (z := beads) (enc := eBeads) 0 rfl (pv 0)) T.cl_Beads T.m_Beads_total (ok_Beads_total T) T.b_Beads_total (fun _ => ⟨rfl, by rfl⟩) denF_none) (fun total473 => (ss_retO (enc := eI) (g := fun z => z) (o_lc1 (ow := [("place", 2)]) (enb := eI) C (i_range1 rfl T.n_range (pa_cons (e_lenT (enc := eI) T.n_len (pa_cons (e_fld (g := fun z : BV => z.strengths) (enb := (eT eI)) (e_var (z := beads) (enc := eBeads) 0 rfl (pv 0)) T.cl_Beads T.na_Beads_strengths fC_Beads_strengths) pa_nil)) pa_nil)) (blkOk_by (N := ["beads", "total", "place"]) (sc := defScope s_can_lead) (by decide +kernel)) (fun _ _ _ _ _ => pg_name (i := 2) sc_can_lead.nd rfl (Or.inl rfl)) (gs_name (enc := eI) (i := 2) (by decide)) (fun _ _ _ _ _ C475 place474 => (t_cmp c_ge (b_e (e_ixT (enc := eI) (e_fld (g := fun z : BV => z.strengths) (enb := (eT eI)) (e_var (z := beads) (enc := eBeads) 0 rfl (pv 0)) T.cl_Beads T.na_Beads_strengths fC_Beads_strengths) (e_var (z := place474) (enc := eI) 2 rfl (pv 2)))) (b_e (e_var (z := total473) (enc := eI) 1 rfl (pv 1))) rfl)) (fun _ _ _ _ _ C475 place474 => (e_var (z := place474) (enc := eI) 2 rfl (pv 2)))) Wk.nil (fun _ => rfl))) Wk.nil) Wk.nil) (by simp only [mbk, mba, sqk, sqa, c_can_lead]))
theorem ok_strongest_of (T : Tx K mg ca fa fd) : FnOk P w K mg base (L2N.CX P w) 2 (fa 26) (fd 26) ["beads"] (spO K ca (xC eBeads xN) eI fun a => f_strongest_of a.1) :=
  fn_O (fn_ok (k := 1) (n := 2) (Nx := fun _ _ => []) (L := fun _ (_ : Empty) => []) (R := fun r : (List Int) => .ow (r.map eI)) (encA := (xC eBeads xN)) (code := fun a => c_strongest_of a.1) T.F_strongest_of sc_strongest_of (fun _ => rfl) rfl fun cdv A outer s G H E a C => by
    obtain ⟨beads, u0⟩ := a
    show DSs _ _ [.fr (eBeads beads), .un, .un] _ _ _ _ _
    exact ss_eq (ss_asg (enc := eI) (i := 1) C.nd (e_meth0 C (by decide) (e_var (z := beads) (enc := eBeads) 0 rfl (pv 0)) T.cl_Beads T.m_Beads_greatest (ok_Beads_greatest T) T.b_Beads_greatest (fun _ => ⟨rfl, by rfl⟩) denF_none) (fun greatest487 => (ss_retO (enc := eI) (g := fun z => z) (o_lc1 (ow := [("place", 2)]) (enb := eI) C (i_range1 rfl T.n_range (pa_cons (e_lenT (enc := eI) T.n_len (pa_cons (e_fld (g := fun z : BV => z.strengths) (enb := (eT eI)) (e_var (z := beads) (enc := eBeads) 0 rfl (pv 0)) T.cl_Beads T.na_Beads_strengths fC_Beads_strengths) pa_nil)) pa_nil)) (blkOk_by (N := ["beads", "greatest", "place"]) (sc := defScope s_strongest_of) (by decide +kernel)) (fun _ _ _ _ _ => pg_name (i := 2) sc_strongest_of.nd rfl (Or.inl rfl)) (gs_name (enc := eI) (i := 2) (by decide)) (fun _ _ _ _ _ C489 place488 => (t_cmp c_eq (b_e (e_ixT (enc := eI) (e_fld (g := fun z : BV => z.strengths) (enb := (eT eI)) (e_var (z := beads) (enc := eBeads) 0 rfl (pv 0)) T.cl_Beads T.na_Beads_strengths fC_Beads_strengths) (e_var (z := place488) (enc := eI) 2 rfl (pv 2)))) (b_e (e_var (z := greatest487) (enc := eI) 1 rfl (pv 1))) rfl)) (fun _ _ _ _ _ C489 place488 => (e_var (z := place488) (enc := eI) 2 rfl (pv 2)))) Wk.nil (fun _ => rfl))) Wk.nil) (by simp only [mbk, mba, sqk, sqa, c_strongest_of]))
theorem ok_sums_before (T : Tx K mg ca fa fd) : FnOk P w K mg base (L2N.CX P w) 1 (fa 27) (fd 27) ["lengths"] (spO K ca (xC (eT eI) xN) eI fun a => f_sums_before a.1) :=
  fn_O (fn_ok (k := 0) (n := 2) (Nx := fun _ _ => []) (L := fun _ (_ : Empty) => []) (R := fun r : (List Int) => .ow (r.map eI)) (encA := (xC (eT eI) xN)) (code := fun a => c_sums_before a.1) T.F_sums_before sc_sums_before (fun _ => rfl) rfl fun cdv A outer s G H E a C => by
    obtain ⟨lengths, u0⟩ := a
    show DSs _ _ [.fr ((eT eI) lengths), .un, .un] _ _ _ _ _
    exact ss_eq (ss_asgO (i := 1) C.nd (o_lst (enc := eI) (g := fun z : Int × Unit => [z.1]) (a_cons e_int a_nil) (fun _ => rfl) (fun _ => small_line (by show 1 ≤ 1000; decide))) (fun sums510 => (ss_for (L := fun (s511 : List Int) => [.fr ((eT eI) lengths), .ow (List.map eI s511), .un]) sums510 C (i_tup (enc := eI) (e_var (z := lengths) (enc := (eT eI)) 0 rfl (pv 0))) (g_name (enc := eI) (i := 2) C.nd) (wk_e (wk_e (wk_u wk_n))) Wk.nil (fun length512 s511 => (ss_app (enc := eI) (xs := s511) 1 rfl (pv 1) (e_add (e_ixL (enc := eI) (b_var (z := s511) (enc := eI) 1 rfl (pv 1)) (e_neg e_int)) (e_var (z := length512) (enc := eI) 2 rfl (pv 2))) (fun sums514 => (ss_nil (b := sums514) (wk_e (wk_e (wk_u wk_n))))) Wk.nil (pe_bm PySem.F.plainAttrs_list PySem.F.slot_list_append PySem.F.type_list_append mt_append (pv 1) (pa_cons (e_add (e_ixL (enc := eI) (b_var (z := s511) (enc := eI) 1 rfl (pv 1)) (e_neg e_int)) (e_var (z := length512) (enc := eI) 2 rfl (pv 2))) pa_nil)))) (fun s516 => (ss_retV (r := s516) 1 rfl rfl (pv 1))))) Wk.nil) (by simp only [mbk, mba, sqk, sqa, c_sums_before]))
theorem ok_arc_sums (T : Tx K mg ca fa fd) : FnOk P w K mg base (L2N.CX P w) 2 (fa 28) (fd 28) ["lengths", "heads"] (spO K ca (xC (eT eI) (xC (eT eI) xN)) eI fun a => f_arc_sums a.1 a.2.1) :=
  fn_O (fn_ok (k := 1) (n := 5) (Nx := fun _ _ => []) (L := fun _ (_ : Empty) => []) (R := fun r : (List Int) => .ow (r.map eI)) (encA := (xC (eT eI) (xC (eT eI) xN))) (code := fun a => c_arc_sums a.1 a.2.1) T.F_arc_sums sc_arc_sums (fun _ => rfl) rfl fun cdv A outer s G H E a C => by
    obtain ⟨lengths, heads, u0⟩ := a
    show DSs _ _ [.fr ((eT eI) lengths), .fr ((eT eI) heads), .un, .un, .un, .un, .un] _ _ _ _ _
    exact ss_eq (ss_asgO (i := 2) C.nd (o_call C (by decide) (ok_sums_before T) T.g_sums_before T.k_sums_before T.b_sums_before (x_cons (e_var (z := lengths) (enc := (eT eI)) 0 rfl (pv 0)) x_nil)) (fun sums531 => (ss_asgO (i := 3) C.nd (o_lc0 (ow := [("head", 5)]) (enb := eI) C (i_tup (enc := eI) (e_var (z := heads) (enc := (eT eI)) 1 rfl (pv 1))) (blkOk_by (N := ["lengths", "heads", "sums", "before", "after", "head", "k"]) (sc := defScope s_arc_sums) (by decide +kernel)) (fun _ _ _ _ _ => pg_name (i := 5) sc_arc_sums.nd rfl (Or.inl rfl)) (gs_name (enc := eI) (i := 5) (by decide)) (fun _ _ _ _ _ C533 head532 => (e_ixL (enc := eI) (b_var (z := sums531) (enc := eI) 2 rfl (pv 2)) (e_var (z := head532) (enc := eI) 5 rfl (pv 5))))) (fun before534 => (ss_asgO (i := 4) C.nd (o_cat (enc := eI) (b_e (e_o (o_cutL (enc := eI) (b_var (z := before534) (enc := eI) 3 rfl (pv 3)) (p_some e_int) p_none))) (b_e (e_o (o_lst (enc := eI) (g := fun z : Int × Unit => [z.1]) (a_cons (e_add (e_ixL (enc := eI) (b_var (z := sums531) (enc := eI) 2 rfl (pv 2)) (e_neg e_int)) (e_ixL (enc := eI) (b_var (z := before534) (enc := eI) 3 rfl (pv 3)) e_int)) a_nil) (fun _ => rfl) (fun _ => small_line (by show 1 ≤ 1000; decide)))))) (fun after539 => (ss_retO (enc := eI) (g := fun z => z) (o_lc0 (ow := [("k", 6)]) (enb := eI) C (i_range1 rfl T.n_range (pa_cons (e_lenT (enc := eI) T.n_len (pa_cons (e_var (z := heads) (enc := (eT eI)) 1 rfl (pv 1)) pa_nil)) pa_nil)) (blkOk_by (N := ["lengths", "heads", "sums", "before", "after", "head", "k"]) (sc := defScope s_arc_sums) (by decide +kernel)) (fun _ _ _ _ _ => pg_name (i := 6) sc_arc_sums.nd rfl (Or.inl rfl)) (gs_name (enc := eI) (i := 6) (by decide)) (fun _ _ _ _ _ C541 k540 => (e_sub (e_ixL (enc := eI) (b_var (z := after539) (enc := eI) 4 rfl (pv 4)) (e_var (z := k540) (enc := eI) 6 rfl (pv 6))) (e_ixL (enc := eI) (b_var (z := before534) (enc := eI) 3 rfl (pv 3)) (e_var (z := k540) (enc := eI) 6 rfl (pv 6)))))) Wk.nil (fun _ => rfl))) Wk.nil)) Wk.nil)) Wk.nil) (by simp only [mbk, mba, sqk, sqa, c_arc_sums]))
theorem ok_is_cutting (T : Tx K mg ca fa fd) : FnOk P w K mg base (L2N.CX P w) 3 (fa 29) (fd 29) ["beads", "heads"] (spE K ca (xC eBeads (xC (eT eI) xN)) eB fun a => f_is_cutting a.1 a.2.1) :=
  fn_E (d := .no) (fn_ok (k := 2) (n := 2) (Nx := fun _ _ => []) (L := fun _ (_ : Empty) => []) (R := fun r : Bool => .fr (eB r)) (encA := (xC eBeads (xC (eT eI) xN))) (code := fun a => c_is_cutting a.1 a.2.1) T.F_is_cutting sc_is_cutting (fun _ => rfl) rfl fun cdv A outer s G H E a C => by
    obtain ⟨beads, heads, u0⟩ := a
    show DSs _ _ [.fr (eBeads beads), .fr ((eT eI) heads), .un, .un] _ _ _ _ _
    exact ss_eq (ss_ifX (t_w (w_or (t_cmp (c_eqD (pd_tup pd_int) (by decide) C.room.units) (b_e (e_var (z := heads) (enc := (eT eI)) 1 rfl (pv 1))) (b_e (e_tupH (enc := eI) (g := fun _ => []) a_nil (fun _ => rfl) (fun _ => small_line (Nat.zero_le _)))) rfl) (w_or (t_cmp c_lt (b_e (e_ixT (enc := eI) (e_var (z := heads) (enc := (eT eI)) 1 rfl (pv 1)) e_int)) (b_e e_int) rfl) (w_or1 (t_cmp c_ge (b_e (e_ixT (enc := eI) (e_var (z := heads) (enc := (eT eI)) 1 rfl (pv 1)) (e_neg e_int))) (b_e (e_lenT (enc := eI) T.n_len (pa_cons (e_fld (g := fun z : BV => z.lengths) (enb := (eT eI)) (e_var (z := beads) (enc := eBeads) 0 rfl (pv 0)) T.cl_Beads T.na_Beads_lengths fC_Beads_lengths) pa_nil))) rfl))))) (ss_ret (enc := eB) (g := fun z => z) e_bl Wk.nil (fun _ => rfl)) (nn_mb fun _ => nn_rt) (ss_for (L := fun (s554 : Unit) => [.fr (eBeads beads), .fr ((eT eI) heads), .un, .un]) () C (i_range2 rfl T.n_range (pa_cons e_int (pa_cons (e_lenT (enc := eI) T.n_len (pa_cons (e_var (z := heads) (enc := (eT eI)) 1 rfl (pv 1)) pa_nil)) pa_nil))) (g_name (enc := eI) (i := 2) C.nd) (wk_e (wk_e (wk_u (wk_u wk_n)))) Wk.nil (fun k555 s554 => (ss_ifX (t_cmp c_le (b_e (e_ixT (enc := eI) (e_var (z := heads) (enc := (eT eI)) 1 rfl (pv 1)) (e_var (z := k555) (enc := eI) 2 rfl (pv 2)))) (b_e (e_ixT (enc := eI) (e_var (z := heads) (enc := (eT eI)) 1 rfl (pv 1)) (e_sub (e_var (z := k555) (enc := eI) 2 rfl (pv 2)) e_int))) rfl) (ss_ret (enc := eB) (g := fun z => z) e_bl Wk.nil (fun _ => rfl)) (nn_mb fun _ => nn_rt) (ss_nil (b := ()) (wk_e (wk_e (wk_u (wk_u wk_n))))) Wk.nil)) (fun s559 => (ss_asgO (i := 3) C.nd (o_call C (by decide) (ok_arc_sums T) T.g_arc_sums T.k_arc_sums T.b_arc_sums (x_cons (e_fld (g := fun z : BV => z.lengths) (enb := (eT eI)) (e_var (z := beads) (enc := eBeads) 0 rfl (pv 0)) T.cl_Beads T.na_Beads_lengths fC_Beads_lengths) (x_cons (e_var (z := heads) (enc := (eT eI)) 1 rfl (pv 1)) x_nil))) (fun sums560 => (ss_ret (enc := eB) (g := fun z => z) (e_cmp c_eq (b_e (e_minL C.calm T.n_min (pa_cons (b_var (z := sums560) (enc := eI) 3 rfl (pv 3)) pa_nil))) (b_e (e_maxL C.calm T.n_max (pa_cons (b_var (z := sums560) (enc := eI) 3 rfl (pv 3)) pa_nil))) rfl) Wk.nil (fun _ => rfl))) Wk.nil))) Wk.nil) (by simp only [mbk, mba, sqk, sqa, c_is_cutting])) (.inl rfl)
theorem ok_settled_cut (T : Tx K mg ca fa fd) : FnOk P w K mg base (L2N.CX P w) 5 (fa 30) (fd 30) ["beads"] (spE K ca (xC eBeads xN) (eO (eT eI)) fun a => f_settled_cut a.1) :=
  fn_E (d := (.ok none)) (fn_ok (k := 4) (n := 1) (Nx := fun _ _ => []) (L := fun _ (_ : Empty) => []) (R := fun r : (Option (List Int)) => .fr ((eO (eT eI)) r)) (encA := (xC eBeads xN)) (code := fun a => c_settled_cut a.1) T.F_settled_cut sc_settled_cut (fun _ => rfl) rfl fun cdv A outer s G H E a C => by
    obtain ⟨beads, u0⟩ := a
    show DSs _ _ [.fr (eBeads beads), .un] _ _ _ _ _
    exact ss_eq (ss_expr (enc := eU) (e_call C (by decide) (ok_check_ring T) T.g_check_ring T.k_check_ring T.b_check_ring (x_cons (e_var (z := beads) (enc := eBeads) 0 rfl (pv 0)) x_nil)) (ss_asg (enc := (eT eI)) (i := 1) C.nd (e_tuple (enc := eI) T.n_tuple (pa_cons (b_e (e_o (o_call C (by decide) (ok_strongest_of T) T.g_strongest_of T.k_strongest_of T.b_strongest_of (x_cons (e_var (z := beads) (enc := eBeads) 0 rfl (pv 0)) x_nil)))) pa_nil)) (fun heads572 => (ss_ifX (t_w (w_and (t_val (e_call C (by decide) (ok_is_cutting T) T.g_is_cutting T.k_is_cutting T.b_is_cutting (x_cons (e_var (z := beads) (enc := eBeads) 0 rfl (pv 0)) (x_cons (e_var (z := heads572) (enc := (eT eI)) 1 rfl (pv 1)) x_nil)))) (w_and1 (t_cmp c_eq (b_e (e_meth0 C (by decide) (e_var (z := beads) (enc := eBeads) 0 rfl (pv 0)) T.cl_Beads T.m_Beads_total (ok_Beads_total T) T.b_Beads_total (fun _ => ⟨rfl, by rfl⟩) denF_none)) (b_e (e_mul (e_meth0 C (by decide) (e_var (z := beads) (enc := eBeads) 0 rfl (pv 0)) T.cl_Beads T.m_Beads_greatest (ok_Beads_greatest T) T.b_Beads_greatest (fun _ => ⟨rfl, by rfl⟩) denF_none) (e_lenT (enc := eI) T.n_len (pa_cons (e_var (z := heads572) (enc := (eT eI)) 1 rfl (pv 1)) pa_nil)))) rfl)))) (ss_ret (enc := (eO (eT eI))) (g := fun z => z) (e_some (e_var (z := heads572) (enc := (eT eI)) 1 rfl (pv 1))) Wk.nil (fun _ => rfl)) (nn_mb fun _ => nn_rt) (ss_ret (enc := (eO (eT eI))) (g := fun z => z) (e_none (enc := (eT eI)) e_non) Wk.nil (fun _ => rfl)) Wk.nil)) Wk.nil) Wk.nil) (by simp only [mbk, mba, sqk, sqa, c_settled_cut])) (.inr ⟨_, rfl, rfl⟩)
theorem ok__law_numbers_v2 (T : Tx K mg ca fa fd) : FnOk P w K mg base (L2N.CX P w) 2 (fa 19) (fd 19) ["actual", "due", "as_tuple"] (spE K ca (xC (eO (eT eI)) (xL eI (xC eB xN))) eB fun a => f__law_numbers_v2 a.1 a.2.1 a.2.2.1) :=
  fn_E (d := .no) (fn_ok (k := 1) (n := 1) (Nx := fun _ _ => []) (L := fun _ (_ : Empty) => []) (R := fun r : Bool => .fr (eB r)) (encA := (xC (eO (eT eI)) (xL eI (xC eB xN)))) (code := fun a => c__law_numbers_v2 a.1 a.2.1 a.2.2.1) T.F__law_numbers sc__law_numbers (fun _ => rfl) rfl fun cdv A outer s G H E a C => by
    obtain ⟨actual, due, as_tuple, u0⟩ := a
    show DSs _ _ [.fr ((eO (eT eI)) actual), .ln (List.map eI due), .fr (eB as_tuple), .un] _ _ _ _ _
    exact ss_eq (ss_ifX (t_w (w_orP (t_w (w_andP (t_val (e_var (z := as_tuple) (enc := eB) 2 rfl (pv 2))) (w_and1 (t_not (t_val (e_isi T.n_isinstance (.ty "tuple") (ty_opt (T := "tuple") (r0 := false) rfl (ty_tup (r := true) (by decide +kernel)) (by decide +kernel)) (pa_cons (b_e (e_var (z := actual) (enc := (eO (eT eI))) 0 rfl (pv 0))) (pa_cons (pe_bltn (v := .ty "tuple") rfl T.n_tuple boot_tuple rfl) pa_nil)))))) rfl)) (w_or1 (t_w (w_andP (t_not (t_val (e_var (z := as_tuple) (enc := eB) 2 rfl (pv 2)))) (w_and1 (t_not (t_val (e_isi T.n_isinstance (.ty "list") (ty_opt (T := "list") (r0 := false) rfl (ty_tup (r := false) (by decide +kernel)) (by decide +kernel)) (pa_cons (b_e (e_var (z := actual) (enc := (eO (eT eI))) 0 rfl (pv 0))) (pa_cons (pe_bltn (v := .ty "list") rfl T.n_list boot_list rfl) pa_nil)))))) rfl))) rfl)) (ss_ret (enc := eB) (g := fun z => z) e_bl Wk.nil (fun _ => rfl)) (nn_mb fun _ => nn_rt) (ss_ifX (t_cmp c_ne (b_e (e_lenT (enc := eI) T.n_len (pa_cons (e_unO (e_var (z := actual) (enc := (eO (eT eI))) 0 rfl (pv 0))) pa_nil))) (b_e (e_lenL (enc := eI) T.n_len (pa_cons (l_var (z := due) (enc := eI) 1 rfl (pv 1)) pa_nil))) rfl) (ss_ret (enc := eB) (g := fun z => z) e_bl Wk.nil (fun _ => rfl)) (nn_mb fun _ => nn_rt) (ss_for (L := fun (s596 : Unit) => [.fr ((eO (eT eI)) actual), .ln (List.map eI due), .fr (eB as_tuple), .un]) () C (i_range1 rfl T.n_range (pa_cons (e_lenL (enc := eI) T.n_len (pa_cons (l_var (z := due) (enc := eI) 1 rfl (pv 1)) pa_nil)) pa_nil)) (g_name (enc := eI) (i := 3) C.nd) (wk_e (wk_e (wk_e (wk_u wk_n)))) Wk.nil (fun k597 s596 => (ss_ifX (t_w (w_or (t_not (t_val (e_call C (by decide) (ok__law_is_integer T) T.g__law_is_integer T.k__law_is_integer T.b__law_is_integer (x_cons (e_ixT (enc := eI) (e_unO (e_var (z := actual) (enc := (eO (eT eI))) 0 rfl (pv 0))) (e_var (z := k597) (enc := eI) 3 rfl (pv 3))) x_nil)))) (w_or1 (t_cmp c_ne (b_e (e_ixT (enc := eI) (e_unO (e_var (z := actual) (enc := (eO (eT eI))) 0 rfl (pv 0))) (e_var (z := k597) (enc := eI) 3 rfl (pv 3)))) (b_e (e_ixL (enc := eI) (l_var (z := due) (enc := eI) 1 rfl (pv 1)) (e_var (z := k597) (enc := eI) 3 rfl (pv 3)))) rfl)))) (ss_ret (enc := eB) (g := fun z => z) e_bl Wk.nil (fun _ => rfl)) (nn_mb fun _ => nn_rt) (ss_nil (b := ()) (wk_e (wk_e (wk_e (wk_u wk_n))))) Wk.nil)) (fun s606 => (ss_ret (enc := eB) (g := fun z => z) e_bl Wk.nil (fun _ => rfl)))) Wk.nil) Wk.nil) (by simp only [mbk, mba, sqk, sqa, c__law_numbers_v2])) (.inl rfl)
theorem ok__law_alone (T : Tx K mg ca fa fd) : FnOk P w K mg base (L2N.CX P w) 7 (fa 31) (fd 31) ["beads", "sizes", "strengths", "last"] (spE K ca (xC eBeads (xL eI (xL eI (xC eI xN)))) eB fun a => f__law_alone a.1 a.2.1 a.2.2.1 a.2.2.2.1) :=
  fn_E (d := .no) (fn_ok (k := 6) (n := 1) (Nx := fun _ _ => []) (L := fun _ (_ : Empty) => []) (R := fun r : Bool => .fr (eB r)) (encA := (xC eBeads (xL eI (xL eI (xC eI xN))))) (code := fun a => c__law_alone a.1 a.2.1 a.2.2.1 a.2.2.2.1) T.F__law_alone sc__law_alone (fun _ => rfl) rfl fun cdv A outer s G H E a C => by
    obtain ⟨beads, sizes, strengths, last, u0⟩ := a
    show DSs _ _ [.fr (eBeads beads), .ln (List.map eI sizes), .ln (List.map eI strengths), .fr (eI last), .un] _ _ _ _ _
    exact ss_eq (ss_asgO (i := 4) C.nd (o_call C (by decide) (ok_can_lead T) T.g_can_lead T.k_can_lead T.b_can_lead (x_cons (e_var (z := beads) (enc := eBeads) 0 rfl (pv 0)) x_nil)) (fun told616 => (ss_ifX (t_w (w_or (t_not (t_val (e_call C (by decide) (ok__law_numbers_v1 T) T.g__law_numbers T.k__law_numbers T.b__law_numbers (x_consL (b_var (z := told616) (enc := eI) 4 rfl (pv 4)) (x_consL (b_e (e_o (o_lst (enc := eI) (g := fun z : Int × Unit => [z.1]) (a_cons (e_var (z := last) (enc := eI) 3 rfl (pv 3)) a_nil) (fun _ => rfl) (fun _ => small_line (by show 1 ≤ 1000; decide))))) (x_cons e_bl x_nil)))))) (w_or1 (t_not (t_val (e_call C (by decide) (ok__law_numbers_v2 T) T.g__law_numbers T.k__law_numbers T.b__law_numbers (x_cons (e_call C (by decide) (ok_settled_cut T) T.g_settled_cut T.k_settled_cut T.b_settled_cut (x_cons (e_var (z := beads) (enc := eBeads) 0 rfl (pv 0)) x_nil)) (x_consL (b_e (e_o (o_lst (enc := eI) (g := fun z : Int × Unit => [z.1]) (a_cons (e_var (z := last) (enc := eI) 3 rfl (pv 3)) a_nil) (fun _ => rfl) (fun _ => small_line (by show 1 ≤ 1000; decide))))) (x_cons e_bl x_nil))))))))) (ss_ret (enc := eB) (g := fun z => z) e_bl Wk.nil (fun _ => rfl)) (nn_mb fun _ => nn_rt) (ss_app (enc := eI) (xs := told616) 4 rfl (pv 4) (e_var (z := last) (enc := eI) 3 rfl (pv 3)) (fun told621 => (ss_ret (enc := eB) (g := fun z => z) (e_and (e_call C (by decide) (ok__law_numbers_v1 T) T.g__law_numbers T.k__law_numbers T.b__law_numbers (x_consL (b_e (e_o (o_call C (by decide) (ok_can_lead T) T.g_can_lead T.k_can_lead T.b_can_lead (x_cons (e_var (z := beads) (enc := eBeads) 0 rfl (pv 0)) x_nil)))) (x_consL (b_e (e_o (o_lst (enc := eI) (g := fun z : Int × Unit => [z.1]) (a_cons (e_var (z := last) (enc := eI) 3 rfl (pv 3)) a_nil) (fun _ => rfl) (fun _ => small_line (by show 1 ≤ 1000; decide))))) (x_cons e_bl x_nil)))) (e_one (e_call C (by decide) (ok__law_is_standing T) T.g__law_is_standing T.k__law_is_standing T.b__law_is_standing (x_cons (e_var (z := beads) (enc := eBeads) 0 rfl (pv 0)) (x_cons e_bl (x_consL (l_var (z := sizes) (enc := eI) 1 rfl (pv 1)) (x_consL (l_var (z := strengths) (enc := eI) 2 rfl (pv 2)) x_nil))))))) Wk.nil (fun _ => rfl))) Wk.nil (pe_bm PySem.F.plainAttrs_list PySem.F.slot_list_append PySem.F.type_list_append mt_append (pv 4) (pa_cons (e_var (z := last) (enc := eI) 3 rfl (pv 3)) pa_nil))) Wk.nil)) Wk.nil) (by simp only [mbk, mba, sqk, sqa, c__law_alone])) (.inl rfl)
theorem ok__law_handfuls (T : Tx K mg ca fa fd) : FnOk P w K mg base (L2N.CX P w) 2 (fa 32) (fd 32) ["cell", "size", "many"] (spO K ca (xC eI (xC eI (xC eI xN))) (eL eI) fun a => f__law_handfuls a.1 a.2.1 a.2.2.1) :=
  fn_O (fn_ok (k := 1) (n := 2) (Nx := fun _ _ => []) (L := fun _ (_ : Empty) => []) (R := fun r : (List (List Int)) => .ow (r.map (eL eI))) (encA := (xC eI (xC eI (xC eI xN)))) (code := fun a => c__law_handfuls a.1 a.2.1 a.2.2.1) T.F__law_handfuls sc__law_handfuls (fun _ => rfl) rfl fun cdv A outer s G H E a C => by
    obtain ⟨cell, size, many, u0⟩ := a
    show DSs _ _ [.fr (eI cell), .fr (eI size), .fr (eI many), .un, .un] _ _ _ _ _
    exact ss_eq (ss_asgO (i := 3) C.nd (o_call C (by decide) (ok__law_draws T) T.g__law_draws T.k__law_draws T.b__law_draws (x_cons (e_var (z := cell) (enc := eI) 0 rfl (pv 0)) (x_consL (b_e (e_o (o_rep (enc := eI) (b_e (e_o (o_lst (enc := eI) (g := fun z : Int × Unit => [z.1]) (a_cons (e_var (z := size) (enc := eI) 1 rfl (pv 1)) a_nil) (fun _ => rfl) (fun _ => small_line (by show 1 ≤ 1000; decide))))) (e_mul e_int (e_var (z := many) (enc := eI) 2 rfl (pv 2)))))) x_nil))) (fun draws646 => (ss_retO (enc := (eL eI)) (g := fun z => z) (o_lc0 (ow := [("k", 4)]) (enb := (eL eI)) C (i_range1 rfl T.n_range (pa_cons e_int pa_nil)) (blkOk_by (N := ["cell", "size", "many", "draws", "k"]) (sc := defScope s__law_handfuls) (by decide +kernel)) (fun _ _ _ _ _ => pg_name (i := 4) sc__law_handfuls.nd rfl (Or.inl rfl)) (gs_name (enc := eI) (i := 4) (by decide)) (fun _ _ _ _ _ C648 k647 => (e_o (o_sortSet C648.calm T.n_sorted T.n_set seqI_L (pa_cons (b_e (e_o (o_cutL (enc := eI) (b_var (z := draws646) (enc := eI) 3 rfl (pv 3)) (p_some (e_mul (e_var (z := many) (enc := eI) 2 rfl (pv 2)) (e_var (z := k647) (enc := eI) 4 rfl (pv 4)))) (p_some (e_add (e_mul (e_var (z := many) (enc := eI) 2 rfl (pv 2)) (e_var (z := k647) (enc := eI) 4 rfl (pv 4))) (e_var (z := many) (enc := eI) 2 rfl (pv 2))))))) pa_nil))))) Wk.nil (fun _ => rfl))) Wk.nil) (by simp only [mbk, mba, sqk, sqa, c__law_handfuls]))
theorem ok__law_restless (T : Tx K mg ca fa fd) : FnOk P w K mg base (L2N.CX P w) 2 (fa 33) (fd 33) ["round_flag", "sizes", "strengths"] (spO K ca (xC eB (xL eI (xL eI xN))) eI fun a => f__law_restless a.1 a.2.1 a.2.2.1) :=
  fn_O (fn_ok (k := 1) (n := 1) (Nx := fun _ _ => []) (L := fun _ (_ : Empty) => []) (R := fun r : (List Int) => .ow (r.map eI)) (encA := (xC eB (xL eI (xL eI xN)))) (code := fun a => c__law_restless a.1 a.2.1 a.2.2.1) T.F__law_restless sc__law_restless (fun _ => rfl) rfl fun cdv A outer s G H E a C => by
    obtain ⟨round_flag, sizes, strengths, u0⟩ := a
    show DSs _ _ [.fr (eB round_flag), .ln (List.map eI sizes), .ln (List.map eI strengths), .un] _ _ _ _ _
    exact ss_eq (ss_retO (enc := eI) (g := fun z => z) (o_lc1 (ow := [("k", 3)]) (enb := eI) C (i_range1 rfl T.n_range (pa_cons (e_lenL (enc := eI) T.n_len (pa_cons (l_var (z := sizes) (enc := eI) 1 rfl (pv 1)) pa_nil)) pa_nil)) (blkOk_by (N := ["round_flag", "sizes", "strengths", "k"]) (sc := defScope s__law_restless) (by decide +kernel)) (fun _ _ _ _ _ => pg_name (i := 3) sc__law_restless.nd rfl (Or.inl rfl)) (gs_name (enc := eI) (i := 3) (by decide)) (fun _ _ _ _ _ C672 k671 => (t_cmp c_ne (b_e (e_call C672 (by decide) (ok__law_reach T) T.g__law_reach T.k__law_reach T.b__law_reach (x_cons (e_var (z := round_flag) (enc := eB) 0 rfl (pv 0)) (x_consL (l_var (z := sizes) (enc := eI) 1 rfl (pv 1)) (x_consL (l_var (z := strengths) (enc := eI) 2 rfl (pv 2)) (x_cons (e_var (z := k671) (enc := eI) 3 rfl (pv 3)) x_nil)))))) (b_e (e_ixL (enc := eI) (l_var (z := strengths) (enc := eI) 2 rfl (pv 2)) (e_var (z := k671) (enc := eI) 3 rfl (pv 3)))) rfl)) (fun _ _ _ _ _ C672 k671 => (e_var (z := k671) (enc := eI) 3 rfl (pv 3)))) Wk.nil (fun _ => rfl)) (by simp only [mbk, mba, sqk, sqa, c__law_restless]))
theorem ok__law_woken (T : Tx K mg ca fa fd) : FnOk P w K mg base (L2N.CX P w) 2 (fa 34) (fd 34) ["round_flag", "sizes", "strengths", "places"] (spO K ca (xC eB (xL eI (xL eI (xL eI xN)))) eI fun a => f__law_woken a.1 a.2.1 a.2.2.1 a.2.2.2.1) :=
  fn_O (fn_ok (k := 1) (n := 2) (Nx := fun _ _ => []) (L := fun _ (_ : Empty) => []) (R := fun r : (List Int) => .ow (r.map eI)) (encA := (xC eB (xL eI (xL eI (xL eI xN))))) (code := fun a => c__law_woken a.1 a.2.1 a.2.2.1 a.2.2.2.1) T.F__law_woken sc__law_woken (fun _ => rfl) rfl fun cdv A outer s G H E a C => by
    obtain ⟨round_flag, sizes, strengths, places, u0⟩ := a
    show DSs _ _ [.fr (eB round_flag), .ln (List.map eI sizes), .ln (List.map eI strengths), .ln (List.map eI places), .un, .un] _ _ _ _ _
    exact ss_eq (ss_asgO (i := 4) C.nd (o_list (enc := eI) T.n_list (pa_cons (l_var (z := strengths) (enc := eI) 2 rfl (pv 2)) pa_nil)) (fun after693 => (ss_for (L := fun (s694 : List Int) => [.fr (eB round_flag), .ln (List.map eI sizes), .ln (List.map eI strengths), .ln (List.map eI places), .ow (List.map eI s694), .un]) after693 C (i_ln (enc := eI) (z := places) 3 rfl (pv 3)) (g_name (enc := eI) (i := 5) C.nd) (wk_e (wk_e (wk_e (wk_e (wk_e (wk_u wk_n)))))) Wk.nil (fun place695 s694 => (ss_put (enc := eI) (xs := s694) 4 rfl (pv 4) (e_call C (by decide) (ok__law_reach T) T.g__law_reach T.k__law_reach T.b__law_reach (x_cons (e_var (z := round_flag) (enc := eB) 0 rfl (pv 0)) (x_consL (l_var (z := sizes) (enc := eI) 1 rfl (pv 1)) (x_consL (l_var (z := strengths) (enc := eI) 2 rfl (pv 2)) (x_cons (e_var (z := place695) (enc := eI) 5 rfl (pv 5)) x_nil))))) (e_var (z := place695) (enc := eI) 5 rfl (pv 5)) (fun after696 => (ss_nil (b := after696) (wk_e (wk_e (wk_e (wk_e (wk_e (wk_u wk_n)))))))) Wk.nil)) (fun s698 => (ss_retV (r := s698) 4 rfl rfl (pv 4))))) Wk.nil) (by simp only [mbk, mba, sqk, sqa, c__law_woken]))
theorem ok__law_order (T : Tx K mg ca fa fd) : FnOk P w K mg base (L2N.CX P w) 3 (fa 35) (fd 35) ["cell", "round_flag", "sizes", "strengths", "many"] (spO K ca (xC eI (xC eB (xL eI (xL eI (xC eI xN))))) (eL eI) fun a => f__law_order a.1 a.2.1 a.2.2.1 a.2.2.2.1 a.2.2.2.2.1) :=
  fn_O (fn_ok (k := 2) (n := 7) (Nx := fun _ _ => []) (L := fun _ (_ : Empty) => []) (R := fun r : (List (List Int)) => .ow (r.map (eL eI))) (encA := (xC eI (xC eB (xL eI (xL eI (xC eI xN)))))) (code := fun a => c__law_order a.1 a.2.1 a.2.2.1 a.2.2.2.1 a.2.2.2.2.1) T.F__law_order sc__law_order (fun _ => rfl) rfl fun cdv A outer s G H E a C => by
    obtain ⟨cell, round_flag, sizes, strengths, many, u0⟩ := a
    show DSs _ _ [.fr (eI cell), .fr (eB round_flag), .ln (List.map eI sizes), .ln (List.map eI strengths), .fr (eI many), .un, .un, .un, .un, .un, .un, .un] _ _ _ _ _
    exact ss_eq (ss_asgO (i := 5) C.nd (o_call C (by decide) (ok__law_draws T) T.g__law_draws T.k__law_draws T.b__law_draws (x_cons (e_var (z := cell) (enc := eI) 0 rfl (pv 0)) (x_consL (b_e (e_o (o_rep (enc := eI) (b_e (e_o (o_lst (enc := eI) (g := fun z : Int × Unit => [z.1]) (a_cons e_int a_nil) (fun _ => rfl) (fun _ => small_line (by show 1 ≤ 1000; decide))))) (e_mul e_int (e_var (z := many) (enc := eI) 4 rfl (pv 4)))))) x_nil))) (fun draws728 => (ss_asgO (i := 6) C.nd (o_lst (enc := (eL eI)) (g := fun _ => []) a_nil (fun _ => rfl) (fun _ => small_line (Nat.zero_le _))) (fun order729 => (ss_asgO (i := 7) C.nd (o_list (enc := eI) T.n_list (pa_cons (l_var (z := strengths) (enc := eI) 3 rfl (pv 3)) pa_nil)) (fun now730 => (ss_for (L := fun (s731 : List Int × List (List Int)) => [.fr (eI cell), .fr (eB round_flag), .ln (List.map eI sizes), .ln (List.map eI strengths), .fr (eI many), .ow (List.map eI draws728), .ow (List.map (eL eI) s731.2), .ow (List.map eI s731.1), .un, .un, .un, .un]) (now730, order729) C (i_range1 rfl T.n_range (pa_cons e_int pa_nil)) (g_name (enc := eI) (i := 8) C.nd) (wk_e (wk_e (wk_e (wk_e (wk_e (wk_e (wk_e (wk_e (wk_u (wk_u (wk_u (wk_u wk_n)))))))))))) Wk.nil (fun step732 s731 => (ss_asgO (i := 9) C.nd (o_call C (by decide) (ok__law_restless T) T.g__law_restless T.k__law_restless T.b__law_restless (x_cons (e_var (z := round_flag) (enc := eB) 1 rfl (pv 1)) (x_consL (l_var (z := sizes) (enc := eI) 2 rfl (pv 2)) (x_consL (b_var (z := s731.1) (enc := eI) 7 rfl (pv 7)) x_nil)))) (fun restless_v733 => (ss_ifX (t_cmp (c_eqD (pd_lst pd_int) (by decide) C.room.units) (b_var (z := restless_v733) (enc := eI) 9 rfl (pv 9)) (b_e (e_o (o_lst (enc := eI) (g := fun _ => []) a_nil (fun _ => rfl) (fun _ => small_line (Nat.zero_le _))))) rfl) (ss_brk (c := (s731.1, s731.2)) (wk_e (wk_e (wk_e (wk_e (wk_e (wk_e (wk_e (wk_e (wk_u (wk_u (wk_u (wk_u wk_n))))))))))))) nn_bk (ss_asgLc0 (i := 10) (ow := [("k", 11)]) (enb := eI) C (i_range1 rfl T.n_range (pa_cons (e_var (z := many) (enc := eI) 4 rfl (pv 4)) pa_nil)) (blkOk_by (N := ["cell", "round_flag", "sizes", "strengths", "many", "draws", "order", "now", "step", "restless_v", "picks", "k"]) (sc := defScope s__law_order) (by decide +kernel)) (fun _ _ _ _ _ => pg_name (i := 11) sc__law_order.nd rfl (Or.inl rfl)) (gs_name (enc := eI) (i := 11) (by decide)) (fun _ _ _ _ _ C735 k734 => (e_ixL (enc := eI) (b_var (z := restless_v733) (enc := eI) 9 rfl (pv 9)) (e_mod (e_intI T.n_int (pa_cons (e_ixL (enc := eI) (b_var (z := draws728) (enc := eI) 5 rfl (pv 5)) (e_add (e_mul (e_var (z := step732) (enc := eI) 8 rfl (pv 8)) (e_var (z := many) (enc := eI) 4 rfl (pv 4))) (e_var (z := k734) (enc := eI) 11 rfl (pv 11)))) pa_nil)) (e_lenL (enc := eI) T.n_len (pa_cons (b_var (z := restless_v733) (enc := eI) 9 rfl (pv 9)) pa_nil))))) (fun picks741 => (ss_app (enc := (eL eI)) (xs := s731.2) 6 rfl (pv 6) (e_o (o_sortSet C.calm T.n_sorted T.n_set seqI_L (pa_cons (b_var (z := picks741) (enc := eI) 10 rfl (pv 10)) pa_nil))) (fun order742 => (ss_asgO (i := 7) C.nd (o_call C (by decide) (ok__law_woken T) T.g__law_woken T.k__law_woken T.b__law_woken (x_cons (e_var (z := round_flag) (enc := eB) 1 rfl (pv 1)) (x_consL (l_var (z := sizes) (enc := eI) 2 rfl (pv 2)) (x_consL (b_var (z := s731.1) (enc := eI) 7 rfl (pv 7)) (x_consL (b_e (e_ixL (enc := (eL eI)) (b_var (z := order742) (enc := (eL eI)) 6 rfl (pv 6)) (e_neg e_int))) x_nil))))) (fun now744 => (ss_nil (b := (now744, order742)) (wk_e (wk_e (wk_e (wk_e (wk_e (wk_e (wk_e (wk_e (wk_u (wk_u (wk_u (wk_u wk_n)))))))))))))) Wk.nil)) Wk.nil (pe_bm PySem.F.plainAttrs_list PySem.F.slot_list_append PySem.F.type_list_append mt_append (pv 6) (pa_cons (e_o (o_sortSet C.calm T.n_sorted T.n_set seqI_L (pa_cons (b_var (z := picks741) (enc := eI) 10 rfl (pv 10)) pa_nil))) pa_nil)))) Wk.nil) Wk.nil)) Wk.nil)) (fun s746 => (ss_retV (r := s746.2) 6 rfl rfl (pv 6))))) Wk.nil)) Wk.nil)) Wk.nil) (by simp only [mbk, mba, sqk, sqa, c__law_order]))
theorem ok__law_rested (T : Tx K mg ca fa fd) : FnOk P w K mg base (L2N.CX P w) 2 (fa 36) (fd 36) ["sizes", "strengths"] (spO K ca (xL eI (xL eI xN)) eI fun a => f__law_rested a.1 a.2.1) :=
  fn_O (fn_ok (k := 1) (n := 5) (Nx := fun _ _ => []) (L := fun _ (_ : Empty) => []) (R := fun r : (List Int) => .ow (r.map eI)) (encA := (xL eI (xL eI xN))) (code := fun a => c__law_rested a.1 a.2.1) T.F__law_rested sc__law_rested (fun _ => rfl) rfl fun cdv A outer s G H E a C => by
    obtain ⟨sizes, strengths, u0⟩ := a
    show DSs _ _ [.ln (List.map eI sizes), .ln (List.map eI strengths), .un, .un, .un, .un, .un] _ _ _ _ _
    exact ss_eq (ss_asgO (i := 2) C.nd (o_list (enc := eI) T.n_list (pa_cons (l_var (z := strengths) (enc := eI) 1 rfl (pv 1)) pa_nil)) (fun now778 => (ss_asg (enc := eI) (i := 3) C.nd e_int (fun idle779 => (ss_for (L := fun (s780 : Int × List Int) => [.ln (List.map eI sizes), .ln (List.map eI strengths), .ow (List.map eI s780.2), .fr (eI s780.1), .un, .un, .un]) (idle779, now778) C (i_range1 rfl T.n_range (pa_cons e_int pa_nil)) (g_name (enc := eI) (i := 4) C.nd) (wk_e (wk_e (wk_e (wk_e (wk_u (wk_u (wk_u wk_n))))))) Wk.nil (fun look781 s780 => (ss_asg (enc := eI) (i := 5) C.nd (e_mod (e_intI T.n_int (pa_cons (e_var (z := look781) (enc := eI) 4 rfl (pv 4)) pa_nil)) (e_lenL (enc := eI) T.n_len (pa_cons (l_var (z := sizes) (enc := eI) 0 rfl (pv 0)) pa_nil))) (fun place782 => (ss_asg (enc := eI) (i := 6) C.nd (e_call C (by decide) (ok__law_reach T) T.g__law_reach T.k__law_reach T.b__law_reach (x_cons e_bl (x_consL (l_var (z := sizes) (enc := eI) 0 rfl (pv 0)) (x_consL (b_var (z := s780.2) (enc := eI) 2 rfl (pv 2)) (x_cons (e_var (z := place782) (enc := eI) 5 rfl (pv 5)) x_nil))))) (fun reach783 => (ss_asg (enc := eI) (i := 3) C.nd (e_add (e_var (z := s780.1) (enc := eI) 3 rfl (pv 3)) e_int) (fun idle784 => (ss_ifP (fun (j788 : Int) => [.ln (List.map eI sizes), .ln (List.map eI strengths), .ow (List.map eI s780.2), .fr (eI j788), .fr (eI look781), .fr (eI place782), .fr (eI reach783)]) (t_cmp c_ne (b_e (e_var (z := reach783) (enc := eI) 6 rfl (pv 6))) (b_e (e_ixL (enc := eI) (b_var (z := s780.2) (enc := eI) 2 rfl (pv 2)) (e_var (z := place782) (enc := eI) 5 rfl (pv 5)))) rfl) (ss_asg (enc := eI) (i := 3) C.nd e_int (fun idle787 => (ss_nil (b := idle787) (wk_e (wk_e (wk_e (wk_e (wk_e (wk_e (wk_e wk_n))))))))) Wk.nil) (ss_nil (b := idle784) (wk_e (wk_e (wk_e (wk_e (wk_e (wk_e (wk_e wk_n)))))))) rfl rfl (fun j788 => (ss_put (enc := eI) (xs := s780.2) 2 rfl (pv 2) (e_var (z := reach783) (enc := eI) 6 rfl (pv 6)) (e_var (z := place782) (enc := eI) 5 rfl (pv 5)) (fun now789 => (ss_ifX (t_cmp c_eq (b_e (e_var (z := j788) (enc := eI) 3 rfl (pv 3))) (b_e (e_lenL (enc := eI) T.n_len (pa_cons (l_var (z := sizes) (enc := eI) 0 rfl (pv 0)) pa_nil))) rfl) (ss_retV (r := now789) 2 rfl rfl (pv 2)) nn_rt (ss_nil (b := (j788, now789)) (wk_e (wk_e (wk_e (wk_e (wk_u (wk_u (wk_u wk_n)))))))) Wk.nil)) Wk.nil)) Wk.nil)) Wk.nil)) Wk.nil)) Wk.nil)) (fun s791 => (ss_retO (enc := eI) (g := fun z => z) (o_lst (enc := eI) (g := fun _ => []) a_nil (fun _ => rfl) (fun _ => small_line (Nat.zero_le _))) Wk.nil (fun _ => rfl))))) Wk.nil)) Wk.nil) (by simp only [mbk, mba, sqk, sqa, c__law_rested]))
theorem ok_reaches (T : Tx K mg ca fa fd) : FnOk P w K mg base (L2N.CX P w) 7 (fa 37) (fd 37) ["beads"] (spO K ca (xC eBeads xN) eI fun a => f_reaches a.1) :=
  fn_O (fn_ok (k := 6) (n := 1) (Nx := fun _ _ => []) (L := fun _ (_ : Empty) => []) (R := fun r : (List Int) => .ow (r.map eI)) (encA := (xC eBeads xN)) (code := fun a => c_reaches a.1) T.F_reaches sc_reaches (fun _ => rfl) rfl fun cdv A outer s G H E a C => by
    obtain ⟨beads, u0⟩ := a
    show DSs _ _ [.fr (eBeads beads), .un] _ _ _ _ _
    exact ss_eq (ss_retO (enc := eI) (g := fun z => z) (o_lc0 (ow := [("place", 1)]) (enb := eI) C (i_range1 rfl T.n_range (pa_cons (e_lenO C (by decide) T.n_len T.cl_Beads T.m_Beads___len__.at_ T.m_Beads___len__.fn (ok_Beads___len__ T) T.b_Beads___len__ (fun z => (rfl : eBeads z = _)) (fun _ _ h => ok_ne h) (pa_cons (e_var (z := beads) (enc := eBeads) 0 rfl (pv 0)) pa_nil)) pa_nil)) (blkOk_by (N := ["beads", "place"]) (sc := defScope s_reaches) (by decide +kernel)) (fun _ _ _ _ _ => pg_name (i := 1) sc_reaches.nd rfl (Or.inl rfl)) (gs_name (enc := eI) (i := 1) (by decide)) (fun _ _ _ _ _ C801 place800 => (e_call C801 (by decide) (ok_reach_of T) T.g_reach_of T.k_reach_of T.b_reach_of (x_cons (e_var (z := beads) (enc := eBeads) 0 rfl (pv 0)) (x_cons (e_var (z := place800) (enc := eI) 1 rfl (pv 1)) x_nil))))) Wk.nil (fun _ => rfl)) (by simp only [mbk, mba, sqk, sqa, c_reaches]))
theorem ok_restless (T : Tx K mg ca fa fd) : FnOk P w K mg base (L2N.CX P w) 8 (fa 38) (fd 38) ["beads"] (spO K ca (xC eBeads xN) eI fun a => f_restless a.1) :=
  fn_O (fn_ok (k := 7) (n := 2) (Nx := fun _ _ => []) (L := fun _ (_ : Empty) => []) (R := fun r : (List Int) => .ow (r.map eI)) (encA := (xC eBeads xN)) (code := fun a => c_restless a.1) T.F_restless sc_restless (fun _ => rfl) rfl fun cdv A outer s G H E a C => by
    obtain ⟨beads, u0⟩ := a
    show DSs _ _ [.fr (eBeads beads), .un, .un] _ _ _ _ _
    exact ss_eq (ss_asgO (i := 1) C.nd (o_call C (by decide) (ok_reaches T) T.g_reaches T.k_reaches T.b_reaches (x_cons (e_var (z := beads) (enc := eBeads) 0 rfl (pv 0)) x_nil)) (fun after811 => (ss_retO (enc := eI) (g := fun z => z) (o_lc1 (ow := [("place", 2)]) (enb := eI) C (i_range1 rfl T.n_range (pa_cons (e_lenO C (by decide) T.n_len T.cl_Beads T.m_Beads___len__.at_ T.m_Beads___len__.fn (ok_Beads___len__ T) T.b_Beads___len__ (fun z => (rfl : eBeads z = _)) (fun _ _ h => ok_ne h) (pa_cons (e_var (z := beads) (enc := eBeads) 0 rfl (pv 0)) pa_nil)) pa_nil)) (blkOk_by (N := ["beads", "after", "place"]) (sc := defScope s_restless) (by decide +kernel)) (fun _ _ _ _ _ => pg_name (i := 2) sc_restless.nd rfl (Or.inl rfl)) (gs_name (enc := eI) (i := 2) (by decide)) (fun _ _ _ _ _ C814 place813 => (t_cmp c_ne (b_e (e_ixL (enc := eI) (b_var (z := after811) (enc := eI) 1 rfl (pv 1)) (e_var (z := place813) (enc := eI) 2 rfl (pv 2)))) (b_e (e_ixT (enc := eI) (e_fld (g := fun z : BV => z.strengths) (enb := (eT eI)) (e_var (z := beads) (enc := eBeads) 0 rfl (pv 0)) T.cl_Beads T.na_Beads_strengths fC_Beads_strengths) (e_var (z := place813) (enc := eI) 2 rfl (pv 2)))) rfl)) (fun _ _ _ _ _ C814 place813 => (e_var (z := place813) (enc := eI) 2 rfl (pv 2)))) Wk.nil (fun _ => rfl))) Wk.nil) (by simp only [mbk, mba, sqk, sqa, c_restless]))
theorem ok_lord_of (T : Tx K mg ca fa fd) : FnOk P w K mg base (L2N.CX P w) 3 (fa 39) (fd 39) ["beads", "place"] (spE K ca (xC eBeads (xC eI xN)) (eO eI) fun a => f_lord_of a.1 a.2.1) :=
  fn_E (d := (.ok none)) (fn_ok (k := 2) (n := 2) (Nx := fun _ _ => []) (L := fun _ (_ : Empty) => []) (R := fun r : (Option Int) => .fr ((eO eI) r)) (encA := (xC eBeads (xC eI xN))) (code := fun a => c_lord_of a.1 a.2.1) T.F_lord_of sc_lord_of (fun _ => rfl) rfl fun cdv A outer s G H E a C => by
    obtain ⟨beads, place, u0⟩ := a
    show DSs _ _ [.fr (eBeads beads), .fr (eI place), .un, .un] _ _ _ _ _
    exact ss_eq (ss_asgO (i := 2) C.nd (o_rng1 C.calm T.n_list T.n_range (e_var (z := place) (enc := eI) 1 rfl (pv 1))) (fun before838 => (ss_if (N := fun (j845 : List Int) => [.fr (eBeads beads), .fr (eI place), .ow (List.map eI j845), .un]) (t_val (e_fld (g := fun z : BV => z.ring) (enb := eB) (e_var (z := beads) (enc := eBeads) 0 rfl (pv 0)) T.cl_Beads T.na_Beads_ring fC_Beads_ring)) (ss_asgO (i := 2) C.nd (o_cat (enc := eI) (b_e (e_o (o_rng2 C.calm T.n_list T.n_range (e_add (e_var (z := place) (enc := eI) 1 rfl (pv 1)) e_int) (e_lenO C (by decide) T.n_len T.cl_Beads T.m_Beads___len__.at_ T.m_Beads___len__.fn (ok_Beads___len__ T) T.b_Beads___len__ (fun z => (rfl : eBeads z = _)) (fun _ _ h => ok_ne h) (pa_cons (e_var (z := beads) (enc := eBeads) 0 rfl (pv 0)) pa_nil))))) (b_var (z := before838) (enc := eI) 2 rfl (pv 2))) (fun before844 => (ss_nil (b := before844) (wk_e (wk_e (wk_e (wk_u wk_n)))))) Wk.nil) (ss_nil (b := before838) (wk_e (wk_e (wk_e (wk_u wk_n))))) (fun j845 => (ss_frz 2 rfl (ss_for (L := fun (s846 : Unit) => [.fr (eBeads beads), .fr (eI place), .fr ((eL eI) j845), .un]) () C (i_rev (enc := eI) rfl T.n_reversed (pa_cons (e_var (z := j845) (enc := (eL eI)) 2 rfl (pv 2)) pa_nil)) (g_name (enc := eI) (i := 3) C.nd) (wk_e (wk_e (wk_e (wk_u wk_n)))) Wk.nil (fun at847 s846 => (ss_ifX (t_cmp c_gt (b_e (e_ixT (enc := eI) (e_fld (g := fun z : BV => z.strengths) (enb := (eT eI)) (e_var (z := beads) (enc := eBeads) 0 rfl (pv 0)) T.cl_Beads T.na_Beads_strengths fC_Beads_strengths) (e_var (z := at847) (enc := eI) 3 rfl (pv 3)))) (b_e (e_ixT (enc := eI) (e_fld (g := fun z : BV => z.strengths) (enb := (eT eI)) (e_var (z := beads) (enc := eBeads) 0 rfl (pv 0)) T.cl_Beads T.na_Beads_strengths fC_Beads_strengths) (e_var (z := place) (enc := eI) 1 rfl (pv 1)))) rfl) (ss_ret (enc := (eO eI)) (g := fun z => z) (e_some (e_var (z := at847) (enc := eI) 3 rfl (pv 3))) Wk.nil (fun _ => rfl)) (nn_mb fun _ => nn_rt) (ss_nil (b := ()) (wk_e (wk_e (wk_e (wk_u wk_n))))) Wk.nil)) (fun s851 => (ss_ret (enc := (eO eI)) (g := fun z => z) (e_none (enc := eI) e_non) Wk.nil (fun _ => rfl)))))) Wk.nil)) Wk.nil) (by simp only [mbk, mba, sqk, sqa, c_lord_of])) (.inr ⟨_, rfl, rfl⟩)
theorem ok_lords_of (T : Tx K mg ca fa fd) : FnOk P w K mg base (L2N.CX P w) 4 (fa 40) (fd 40) ["beads"] (spO K ca (xC eBeads xN) (eO eI) fun a => f_lords_of a.1) :=
  fn_O (fn_ok (k := 3) (n := 1) (Nx := fun _ _ => []) (L := fun _ (_ : Empty) => []) (R := fun r : (List (Option Int)) => .ow (r.map (eO eI))) (encA := (xC eBeads xN)) (code := fun a => c_lords_of a.1) T.F_lords_of sc_lords_of (fun _ => rfl) rfl fun cdv A outer s G H E a C => by
    obtain ⟨beads, u0⟩ := a
    show DSs _ _ [.fr (eBeads beads), .un] _ _ _ _ _
    exact ss_eq (ss_retO (enc := (eO eI)) (g := fun z => z) (o_lc0 (ow := [("place", 1)]) (enb := (eO eI)) C (i_range1 rfl T.n_range (pa_cons (e_lenO C (by decide) T.n_len T.cl_Beads T.m_Beads___len__.at_ T.m_Beads___len__.fn (ok_Beads___len__ T) T.b_Beads___len__ (fun z => (rfl : eBeads z = _)) (fun _ _ h => ok_ne h) (pa_cons (e_var (z := beads) (enc := eBeads) 0 rfl (pv 0)) pa_nil)) pa_nil)) (blkOk_by (N := ["beads", "place"]) (sc := defScope s_lords_of) (by decide +kernel)) (fun _ _ _ _ _ => pg_name (i := 1) sc_lords_of.nd rfl (Or.inl rfl)) (gs_name (enc := eI) (i := 1) (by decide)) (fun _ _ _ _ _ C855 place854 => (e_call C855 (by decide) (ok_lord_of T) T.g_lord_of T.k_lord_of T.b_lord_of (x_cons (e_var (z := beads) (enc := eBeads) 0 rfl (pv 0)) (x_cons (e_var (z := place854) (enc := eI) 1 rfl (pv 1)) x_nil))))) Wk.nil (fun _ => rfl)) (by simp only [mbk, mba, sqk, sqa, c_lords_of]))
theorem ok_leaders_of (T : Tx K mg ca fa fd) : FnOk P w K mg base (L2N.CX P w) 5 (fa 41) (fd 41) ["beads"] (spO K ca (xC eBeads xN) eI fun a => f_leaders_of a.1) :=
  fn_O (fn_ok (k := 4) (n := 2) (Nx := fun _ _ => []) (L := fun _ (_ : Empty) => []) (R := fun r : (List Int) => .ow (r.map eI)) (encA := (xC eBeads xN)) (code := fun a => c_leaders_of a.1) T.F_leaders_of sc_leaders_of (fun _ => rfl) rfl fun cdv A outer s G H E a C => by
    obtain ⟨beads, u0⟩ := a
    show DSs _ _ [.fr (eBeads beads), .un, .un] _ _ _ _ _
    exact ss_eq (ss_asgO (i := 1) C.nd (o_call C (by decide) (ok_lords_of T) T.g_lords_of T.k_lords_of T.b_lords_of (x_cons (e_var (z := beads) (enc := eBeads) 0 rfl (pv 0)) x_nil)) (fun lords864 => (ss_retO (enc := eI) (g := fun z => z) (o_lc1 (ow := [("place", 2)]) (enb := eI) C (i_range1 rfl T.n_range (pa_cons (e_lenO C (by decide) T.n_len T.cl_Beads T.m_Beads___len__.at_ T.m_Beads___len__.fn (ok_Beads___len__ T) T.b_Beads___len__ (fun z => (rfl : eBeads z = _)) (fun _ _ h => ok_ne h) (pa_cons (e_var (z := beads) (enc := eBeads) 0 rfl (pv 0)) pa_nil)) pa_nil)) (blkOk_by (N := ["beads", "lords", "place"]) (sc := defScope s_leaders_of) (by decide +kernel)) (fun _ _ _ _ _ => pg_name (i := 2) sc_leaders_of.nd rfl (Or.inl rfl)) (gs_name (enc := eI) (i := 2) (by decide)) (fun _ _ _ _ _ C867 place866 => (t_cmp (c_isN (fun _ h => by cases h)) (b_e (e_ixL (enc := (eO eI)) (b_var (z := lords864) (enc := (eO eI)) 1 rfl (pv 1)) (e_var (z := place866) (enc := eI) 2 rfl (pv 2)))) (b_e e_non) rfl)) (fun _ _ _ _ _ C867 place866 => (e_var (z := place866) (enc := eI) 2 rfl (pv 2)))) Wk.nil (fun _ => rfl))) Wk.nil) (by simp only [mbk, mba, sqk, sqa, c_leaders_of]))
theorem ok_resting_cut (T : Tx K mg ca fa fd) : FnOk P w K mg base (L2N.CX P w) 9 (fa 42) (fd 42) ["beads"] (spE K ca (xC eBeads xN) (eT eI) fun a => f_resting_cut a.1) :=
  fn_E (d := .no) (fn_ok (k := 8) (n := 1) (Nx := fun _ _ => []) (L := fun _ (_ : Empty) => []) (R := fun r : (List Int) => .fr ((eT eI) r)) (encA := (xC eBeads xN)) (code := fun a => c_resting_cut a.1) T.F_resting_cut sc_resting_cut (fun _ => rfl) rfl fun cdv A outer s G H E a C => by
    obtain ⟨beads, u0⟩ := a
    show DSs _ _ [.fr (eBeads beads), .un] _ _ _ _ _
    exact ss_eq (ss_expr (enc := eU) (e_call C (by decide) (ok_check_ring T) T.g_check_ring T.k_check_ring T.b_check_ring (x_cons (e_var (z := beads) (enc := eBeads) 0 rfl (pv 0)) x_nil)) (ss_asgO (i := 1) C.nd (o_call C (by decide) (ok_restless T) T.g_restless T.k_restless T.b_restless (x_cons (e_var (z := beads) (enc := eBeads) 0 rfl (pv 0)) x_nil)) (fun places872 => (ss_ifX (t_cmp (c_neD (pd_lst pd_int) (by decide) C.room.units) (b_var (z := places872) (enc := eI) 1 rfl (pv 1)) (b_e (e_o (o_lst (enc := eI) (g := fun _ => []) a_nil (fun _ => rfl) (fun _ => small_line (Nat.zero_le _))))) rfl) (ss_raise1 (enc := eI) C (by decide) T.x_NotAtRest (okI_NotAtRest T) T.xb_NotAtRest (pa_cons (e_ixL (enc := eI) (b_var (z := places872) (enc := eI) 1 rfl (pv 1)) e_int) pa_nil) Wk.nil) (nn_mb fun _ => nn_er) (ss_ret (enc := (eT eI)) (g := fun z => z) (e_tuple (enc := eI) T.n_tuple (pa_cons (b_e (e_o (o_call C (by decide) (ok_leaders_of T) T.g_leaders_of T.k_leaders_of T.b_leaders_of (x_cons (e_var (z := beads) (enc := eBeads) 0 rfl (pv 0)) x_nil)))) pa_nil)) Wk.nil (fun _ => rfl)) Wk.nil)) Wk.nil) Wk.nil) (by simp only [mbk, mba, sqk, sqa, c_resting_cut])) (.inl rfl)
theorem ok__law_kept (T : Tx K mg ca fa fd) : FnOk P w K mg base (L2N.CX P w) 10 (fa 43) (fd 43) ["sizes", "strengths", "order", "last"] (spE K ca (xL eI (xL eI (xL (eL eI) (xC eI xN)))) eB fun a => f__law_kept a.1 a.2.1 a.2.2.1 a.2.2.2.1) :=
  fn_E (d := .no) (fn_ok (k := 9) (n := 4) (Nx := fun _ _ => []) (L := fun _ (_ : Empty) => []) (R := fun r : Bool => .fr (eB r)) (encA := (xL eI (xL eI (xL (eL eI) (xC eI xN))))) (code := fun a => c__law_kept a.1 a.2.1 a.2.2.1 a.2.2.2.1) T.F__law_kept sc__law_kept (fun _ => rfl) rfl fun cdv A outer s G H E a C => by
    obtain ⟨sizes, strengths, order, last, u0⟩ := a
    show DSs _ _ [.ln (List.map eI sizes), .ln (List.map eI strengths), .ln (List.map (eL eI) order), .fr (eI last), .un, .un, .un, .un] _ _ _ _ _
    exact ss_eq (ss_asgO (i := 4) C.nd (o_list (enc := eI) T.n_list (pa_cons (l_var (z := strengths) (enc := eI) 1 rfl (pv 1)) pa_nil)) (fun now878 => (ss_for (L := fun (s879 : List Int) => [.ln (List.map eI sizes), .ln (List.map eI strengths), .ln (List.map (eL eI) order), .fr (eI last), .ow (List.map eI s879), .un, .un, .un]) now878 C (i_ln (enc := (eL eI)) (z := order) 2 rfl (pv 2)) (g_name (enc := (eL eI)) (i := 5) C.nd) (wk_e (wk_e (wk_e (wk_e (wk_e (wk_u (wk_u (wk_u wk_n)))))))) Wk.nil (fun handful880 s879 => (ss_asgO (i := 4) C.nd (o_call C (by decide) (ok__law_woken T) T.g__law_woken T.k__law_woken T.b__law_woken (x_cons e_bl (x_consL (l_var (z := sizes) (enc := eI) 0 rfl (pv 0)) (x_consL (b_var (z := s879) (enc := eI) 4 rfl (pv 4)) (x_consL (b_e (e_var (z := handful880) (enc := (eL eI)) 5 rfl (pv 5))) x_nil))))) (fun now881 => (ss_ifX (t_not (t_val (e_call C (by decide) (ok__law_alone T) T.g__law_alone T.k__law_alone T.b__law_alone (x_cons (e_make (kws := []) C (by decide) (fun _ _ _ _ _ h => h) T.mk_Beads (ok_Beads___init__ T) T.g_Beads T.kbd_Beads_3_1 (x_consL (b_e (e_o (o_list (enc := eI) T.n_list (pa_cons (b_var (z := now881) (enc := eI) 4 rfl (pv 4)) pa_nil)))) (x_consL (b_e (e_o (o_list (enc := eI) T.n_list (pa_cons (l_var (z := sizes) (enc := eI) 0 rfl (pv 0)) pa_nil)))) x_nil)) k_nil (fun _ => rfl) (fun _ => rfl) (a3d (ds := [.bl true]) (vs0 := [.bl true]) (mk := fun (z : ((List Int) × (List Int) × Unit)) (_ : Unit) => (z.1, z.2.1, true, ())) (.cons (.bl true) .nil) fun _ _ => rfl)) (x_consL (l_var (z := sizes) (enc := eI) 0 rfl (pv 0)) (x_consL (b_var (z := now881) (enc := eI) 4 rfl (pv 4)) (x_cons (e_var (z := last) (enc := eI) 3 rfl (pv 3)) x_nil))))))) (ss_ret (enc := eB) (g := fun z => z) e_bl Wk.nil (fun _ => rfl)) (nn_mb fun _ => nn_rt) (ss_nil (b := now881) (wk_e (wk_e (wk_e (wk_e (wk_e (wk_u (wk_u (wk_u wk_n))))))))) Wk.nil)) Wk.nil)) (fun s885 => (ss_asgO (i := 6) C.nd (o_call C (by decide) (ok__law_rested T) T.g__law_rested T.k__law_rested T.b__law_rested (x_consL (l_var (z := sizes) (enc := eI) 0 rfl (pv 0)) (x_consL (b_var (z := s885) (enc := eI) 4 rfl (pv 4)) x_nil))) (fun end886 => (ss_ifX (t_cmp (c_eqD (pd_lst pd_int) (by decide) C.room.units) (b_var (z := end886) (enc := eI) 6 rfl (pv 6)) (b_e (e_o (o_lst (enc := eI) (g := fun _ => []) a_nil (fun _ => rfl) (fun _ => small_line (Nat.zero_le _))))) rfl) (ss_ret (enc := eB) (g := fun z => z) e_bl Wk.nil (fun _ => rfl)) (nn_mb fun _ => nn_rt) (ss_asg (enc := eBeads) (i := 7) C.nd (e_make (kws := []) C (by decide) (fun _ _ _ _ _ h => h) T.mk_Beads (ok_Beads___init__ T) T.g_Beads T.kbd_Beads_3_1 (x_consL (b_e (e_o (o_list (enc := eI) T.n_list (pa_cons (b_var (z := end886) (enc := eI) 6 rfl (pv 6)) pa_nil)))) (x_consL (b_e (e_o (o_list (enc := eI) T.n_list (pa_cons (l_var (z := sizes) (enc := eI) 0 rfl (pv 0)) pa_nil)))) x_nil)) k_nil (fun _ => rfl) (fun _ => rfl) (a3d (ds := [.bl true]) (vs0 := [.bl true]) (mk := fun (z : ((List Int) × (List Int) × Unit)) (_ : Unit) => (z.1, z.2.1, true, ())) (.cons (.bl true) .nil) fun _ _ => rfl)) (fun beads887 => (ss_ret (enc := eB) (g := fun z => z) (e_and (e_call C (by decide) (ok__law_numbers T) T.g__law_numbers T.k__law_numbers T.b__law_numbers (x_cons (e_call C (by decide) (ok_resting_cut T) T.g_resting_cut T.k_resting_cut T.b_resting_cut (x_cons (e_var (z := beads887) (enc := eBeads) 7 rfl (pv 7)) x_nil)) (x_consL (b_e (e_o (o_lst (enc := eI) (g := fun z : Int × Unit => [z.1]) (a_cons (e_var (z := last) (enc := eI) 3 rfl (pv 3)) a_nil) (fun _ => rfl) (fun _ => small_line (by show 1 ≤ 1000; decide))))) (x_cons e_bl x_nil)))) (e_one (e_call C (by decide) (ok__law_alone T) T.g__law_alone T.k__law_alone T.b__law_alone (x_cons (e_var (z := beads887) (enc := eBeads) 7 rfl (pv 7)) (x_consL (l_var (z := sizes) (enc := eI) 0 rfl (pv 0)) (x_consL (b_var (z := end886) (enc := eI) 6 rfl (pv 6)) (x_cons (e_var (z := last) (enc := eI) 3 rfl (pv 3)) x_nil))))))) Wk.nil (fun _ => rfl))) Wk.nil) Wk.nil)) Wk.nil)))) Wk.nil) (by simp only [mbk, mba, sqk, sqa, c__law_kept])) (.inl rfl)
theorem ok_check_order_v1 (T : Tx K mg ca fa fd) : FnOk P w K mg base (L2N.CX P w) 4 (fa 6) (fd 6) ["order", "size"] (spE K ca (xC (eT eI) (xC eI xN)) eU fun a => f_check_order_v1 a.1 a.2.1) :=
  fn_E (d := (.ok ())) (fn_ok (k := 3) (n := 3) (Nx := fun _ _ => []) (L := fun _ (_ : Empty) => []) (R := fun r : Unit => .fr (eU r)) (encA := (xC (eT eI) (xC eI xN))) (code := fun a => c_check_order_v1 a.1 a.2.1) T.F_check_order sc_check_order (fun _ => rfl) rfl fun cdv A outer s G H E a C => by
    obtain ⟨order, size, u0⟩ := a
    show DSs _ _ [.fr ((eT eI) order), .fr (eI size), .un, .un, .un] _ _ _ _ _
    exact ss_eq (ss_asgO (i := 2) C.nd (o_rep (enc := eB) (b_e (e_o (o_lst (enc := eB) (g := fun z : Bool × Unit => [z.1]) (a_cons e_bl a_nil) (fun _ => rfl) (fun _ => small_line (by show 1 ≤ 1000; decide))))) (e_var (z := size) (enc := eI) 1 rfl (pv 1))) (fun named899 => (ss_for (L := fun (s900 : List Bool) => [.fr ((eT eI) order), .fr (eI size), .ow (List.map eB s900), .un, .un]) named899 C (i_enum (enc := eI) sqE_T rfl T.n_enumerate (pa_cons (e_var (z := order) (enc := (eT eI)) 0 rfl (pv 0)) pa_nil)) (g_tup (enc := (eP2 eI eI)) C.calm (gs_cons (d := fun z : (Int × Int) => eI z.1) (i := 3) C.nd (gs_cons (d := fun z : (Int × Int) => eI z.2) (i := 4) C.nd (gs_nil (β := (Int × Int))))) (fun _ => rfl) (fun _ => rfl)) (wk_e (wk_e (wk_e (wk_u (wk_u wk_n))))) Wk.nil (fun x901 s900 => (ss_ifX (t_w (w_or (t_cmp c_lt (b_e (e_var (z := x901.2) (enc := eI) 4 rfl (pv 4))) (b_e e_int) rfl) (w_or (t_cmp c_ge (b_e (e_var (z := x901.2) (enc := eI) 4 rfl (pv 4))) (b_e (e_var (z := size) (enc := eI) 1 rfl (pv 1))) rfl) (w_or1 (t_val (e_ixL (enc := eB) (b_var (z := s900) (enc := eB) 2 rfl (pv 2)) (e_var (z := x901.2) (enc := eI) 4 rfl (pv 4)))))))) (ss_raise1 (enc := eI) C (by decide) T.x_BadOrder (okI_BadOrder T) T.xb_BadOrder (pa_cons (e_var (z := x901.1) (enc := eI) 3 rfl (pv 3)) pa_nil) Wk.nil) (nn_mb fun _ => nn_er) (ss_put (enc := eB) (xs := s900) 2 rfl (pv 2) e_bl (e_var (z := x901.2) (enc := eI) 4 rfl (pv 4)) (fun named902 => (ss_nil (b := named902) (wk_e (wk_e (wk_e (wk_u (wk_u wk_n))))))) Wk.nil) Wk.nil)) (fun s904 => (ss_ifX (t_cmp c_lt (b_e (e_lenT (enc := eI) T.n_len (pa_cons (e_var (z := order) (enc := (eT eI)) 0 rfl (pv 0)) pa_nil))) (b_e (e_var (z := size) (enc := eI) 1 rfl (pv 1))) rfl) (ss_raise1 (enc := eI) C (by decide) T.x_BadOrder (okI_BadOrder T) T.xb_BadOrder (pa_cons (e_lenT (enc := eI) T.n_len (pa_cons (e_var (z := order) (enc := (eT eI)) 0 rfl (pv 0)) pa_nil)) pa_nil) Wk.nil) (nn_mb fun _ => nn_er) (ss_nil (b := ()) Wk.nil) Wk.nil)))) Wk.nil) (by simp only [mbk, mba, sqk, sqa, c_check_order_v1])) (.inr ⟨_, rfl, rfl⟩)
theorem ok_woken_once_v1 (T : Tx K mg ca fa fd) : FnOk P w K mg base (L2N.CX P w) 9 (fa 17) (fd 17) ["lengths", "order", "ring"] (spE K ca (xC (eT eI) (xC (eT eI) (xC eB xN))) eBeads fun a => f_woken_once_v1 a.1 a.2.1 a.2.2.1) :=
  fn_E (d := .no) (fn_okD (k := 8) (n := 2) (Nx := fun _ _ => []) (L := fun _ (_ : Empty) => []) (R := fun r : BV => .fr (eBeads r)) (encA := (xC (eT eI) (xC (eT eI) (xC eB xN)))) (code := fun a => c_woken_once_v1 a.1 a.2.1 a.2.2.1) T.F_woken_once sc_woken_once (fun _ => rfl) rfl fun cdv A outer s G H E a C => by
    obtain ⟨lengths, order, ring, u0⟩ := a
    show DSs _ _ [.fr ((eT eI) lengths), .fr ((eT eI) order), .fr (eB ring), .un, .un] _ _ _ _ _
    exact ss_eq (ss_expr (enc := eU) (e_call C (by decide) (ok_check_order_v1 T) T.g_check_order T.k_check_order T.b_check_order (x_cons (e_var (z := order) (enc := (eT eI)) 1 rfl (pv 1)) (x_cons (e_lenT (enc := eI) T.n_len (pa_cons (e_var (z := lengths) (enc := (eT eI)) 0 rfl (pv 0)) pa_nil)) x_nil))) (ss_asg (enc := eBeads) (i := 3) C.nd (e_make C (by decide) (fun _ _ _ _ _ h => h) T.mk_Beads (ok_Beads___init___v1 T) T.g_Beads T.kb_Beads_3_ring (x_consL (b_e (e_o (o_rep (enc := eI) (b_e (e_o (o_lst (enc := eI) (g := fun z : Int × Unit => [z.1]) (a_cons (e_sumT C.calm T.n_sum (pa_cons (e_var (z := lengths) (enc := (eT eI)) 0 rfl (pv 0)) pa_nil)) a_nil) (fun _ => rfl) (fun _ => small_line (by show 1 ≤ 1000; decide))))) (e_lenT (enc := eI) T.n_len (pa_cons (e_var (z := lengths) (enc := (eT eI)) 0 rfl (pv 0)) pa_nil))))) (x_cons (e_var (z := lengths) (enc := (eT eI)) 0 rfl (pv 0)) x_nil)) (k_cons (e_var (z := ring) (enc := eB) 2 rfl (pv 2)) k_nil) (fun _ => rfl) (fun _ => rfl) (a3 (mk := fun (z : _ × _ × Unit) (y : _ × Unit) => (z.1, z.2.1, y.1, ())) fun _ _ => rfl)) (fun beads913 => (ss_for (L := fun (s914 : BV) => [.fr ((eT eI) lengths), .fr ((eT eI) order), .fr (eB ring), .fr (eBeads s914), .un]) beads913 C (i_tup (enc := eI) (e_var (z := order) (enc := (eT eI)) 1 rfl (pv 1))) (g_name (enc := eI) (i := 4) C.nd) (wk_e (wk_e (wk_e (wk_e (wk_u wk_n))))) Wk.nil (fun place915 s914 => (ss_asg (enc := eBeads) (i := 3) C.nd (e_call C (by decide) (ok_wake T) T.g_wake T.k_wake T.b_wake (x_cons (e_var (z := s914) (enc := eBeads) 3 rfl (pv 3)) (x_consL (b_e (e_o (o_lst (enc := eI) (g := fun z : Int × Unit => [z.1]) (a_cons (e_var (z := place915) (enc := eI) 4 rfl (pv 4)) a_nil) (fun _ => rfl) (fun _ => small_line (by show 1 ≤ 1000; decide))))) x_nil))) (fun beads916 => (ss_nil (b := beads916) (wk_e (wk_e (wk_e (wk_e (wk_u wk_n))))))) Wk.nil)) (fun s917 => (ss_ret (enc := eBeads) (g := fun z => z) (e_var (z := s917) (enc := eBeads) 3 rfl (pv 3)) Wk.nil (fun _ => rfl))))) Wk.nil) Wk.nil) (by simp only [mbk, mba, sqk, sqa, c_woken_once_v1])) (.inl rfl)
theorem ok_law (T : Tx K mg ca fa fd) : FnOk P w K mg base (L2N.CX P w) 11 (fa 44) (fd 44) ["script"] (spE K ca (xC eScr xN) eB fun a => f_law a.1) :=
  fn_E (d := .no) (fn_ok (k := 10) (n := 11) (Nx := fun _ _ => []) (L := fun _ (_ : Empty) => []) (R := fun r : Bool => .fr (eB r)) (encA := (xC eScr xN)) (code := fun a => c_law a.1) T.F_law sc_law (fun _ => rfl) rfl fun cdv A outer s G H E a C => by
    obtain ⟨script, u0⟩ := a
    show DSs _ _ [.fr (eScr script), .un, .un, .un, .un, .un, .un, .un, .un, .un, .un, .un] _ _ _ _ _
    exact ss_eq (ss_asgO (i := 1) C.nd (o_call C (by decide) (ok__law_draws T) T.g__law_draws T.k__law_draws T.b__law_draws (x_cons (e_call C (by decide) (ok__law_cell T) T.g__law_cell T.k__law_cell T.b__law_cell (x_cons (e_var (z := script) (enc := eScr) 0 rfl (pv 0)) (x_cons e_int x_nil))) (x_consL (b_e (e_o (o_lst (enc := eI) (g := fun z : Int × Int × Int × Int × Int × Unit => [z.1, z.2.1, z.2.2.1, z.2.2.2.1, z.2.2.2.2.1]) (a_cons e_int (a_cons e_int (a_cons e_int (a_cons e_int (a_cons e_int a_nil))))) (fun _ => rfl) (fun _ => small_line (by show 5 ≤ 1000; decide))))) x_nil))) (fun draws927 => (ss_asg (enc := eI) (i := 2) C.nd (e_add e_int (e_ixL (enc := eI) (b_var (z := draws927) (enc := eI) 1 rfl (pv 1)) e_int)) (fun many929 => (ss_if (N := fun (j935 : Int) => [.fr (eScr script), .ow (List.map eI draws927), .fr (eI j935), .un, .un, .un, .un, .un, .un, .un, .un, .un]) (t_cmp c_eq (b_e (e_ixL (enc := eI) (b_var (z := draws927) (enc := eI) 1 rfl (pv 1)) e_int)) (b_e e_int) rfl) (ss_asg (enc := eI) (i := 2) C.nd (e_add e_int (e_ixL (enc := eI) (b_var (z := draws927) (enc := eI) 1 rfl (pv 1)) e_int)) (fun many934 => (ss_nil (b := many934) (wk_e (wk_e (wk_e (wk_u (wk_u (wk_u (wk_u (wk_u (wk_u (wk_u (wk_u (wk_u wk_n)))))))))))))) Wk.nil) (ss_nil (b := many929) (wk_e (wk_e (wk_e (wk_u (wk_u (wk_u (wk_u (wk_u (wk_u (wk_u (wk_u (wk_u wk_n))))))))))))) (fun j935 => (ss_asgO (i := 3) C.nd (o_call C (by decide) (ok__law_lengths T) T.g__law_lengths T.k__law_lengths T.b__law_lengths (x_cons (e_call C (by decide) (ok__law_cell T) T.g__law_cell T.k__law_cell T.b__law_cell (x_cons (e_var (z := script) (enc := eScr) 0 rfl (pv 0)) (x_cons e_int x_nil))) (x_cons (e_var (z := j935) (enc := eI) 2 rfl (pv 2)) x_nil))) (fun sizes937 => (ss_asgO (i := 4) C.nd (o_call C (by decide) (ok__law_shuffled T) T.g__law_shuffled T.k__law_shuffled T.b__law_shuffled (x_cons (e_add (e_call C (by decide) (ok__law_cell T) T.g__law_cell T.k__law_cell T.b__law_cell (x_cons (e_var (z := script) (enc := eScr) 0 rfl (pv 0)) (x_cons e_int x_nil))) e_int) (x_cons (e_var (z := j935) (enc := eI) 2 rfl (pv 2)) x_nil))) (fun places940 => (ss_asgO (i := 5) C.nd (o_call C (by decide) (ok__law_left T) T.g__law_left T.k__law_left T.b__law_left (x_cons e_bl (x_consL (b_var (z := sizes937) (enc := eI) 3 rfl (pv 3)) (x_consL (b_var (z := places940) (enc := eI) 4 rfl (pv 4)) x_nil)))) (fun due941 => (ss_asg (enc := eI) (i := 6) C.nd (e_sum C.calm T.n_sum (pa_cons (b_var (z := sizes937) (enc := eI) 3 rfl (pv 3)) pa_nil)) (fun total942 => (ss_asgO (i := 7) C.nd (o_list (enc := eI) T.n_list (pa_cons (b_var (z := sizes937) (enc := eI) 3 rfl (pv 3)) pa_nil)) (fun given943 => (ss_asgO (i := 8) C.nd (o_list (enc := eI) T.n_list (pa_cons (b_var (z := places940) (enc := eI) 4 rfl (pv 4)) pa_nil)) (fun passed944 => (ss_asg (enc := eBeads) (i := 9) C.nd (e_callK C (by decide) (ok_woken_once T) T.g_woken_once T.k_woken_once T.kf_woken_once_2_ring (x_consL (b_var (z := given943) (enc := eI) 7 rfl (pv 7)) (x_consL (b_var (z := passed944) (enc := eI) 8 rfl (pv 8)) x_nil)) (k_cons e_bl k_nil) (fun _ => rfl) (fun _ => rfl) (ak (mk := fun (z : ((List Int) × (List Int) × Unit)) (y : _ × Unit) => (z.1, z.2.1, y.1, ())) fun _ _ => rfl)) (fun beads945 => (ss_ifX (t_w (w_orP (t_not (t_val (e_call C (by decide) (ok__law_is_standing T) T.g__law_is_standing T.k__law_is_standing T.b__law_is_standing (x_cons (e_var (z := beads945) (enc := eBeads) 9 rfl (pv 9)) (x_cons e_bl (x_consL (b_var (z := sizes937) (enc := eI) 3 rfl (pv 3)) (x_consL (b_var (z := due941) (enc := eI) 5 rfl (pv 5)) x_nil))))))) (w_orP (t_cmp (c_neD (pd_lst pd_int) (by decide) C.room.units) (b_var (z := given943) (enc := eI) 7 rfl (pv 7)) (b_var (z := sizes937) (enc := eI) 3 rfl (pv 3)) rfl) (w_or1 (t_cmp (c_neD (pd_lst pd_int) (by decide) C.room.units) (b_var (z := passed944) (enc := eI) 8 rfl (pv 8)) (b_var (z := places940) (enc := eI) 4 rfl (pv 4)) rfl)) rfl) rfl)) (ss_ret (enc := eB) (g := fun z => z) e_bl Wk.nil (fun _ => rfl)) (nn_mb fun _ => nn_rt) (ss_ifX (t_not (t_val (e_call C (by decide) (ok__law_numbers_v1 T) T.g__law_numbers T.k__law_numbers T.b__law_numbers (x_consL (b_e (e_o (o_lst (enc := eI) (g := fun z : Int × Int × Unit => [z.1, z.2.1]) (a_cons (e_meth0 C (by decide) (e_var (z := beads945) (enc := eBeads) 9 rfl (pv 9)) T.cl_Beads T.m_Beads_total (ok_Beads_total T) T.b_Beads_total (fun _ => ⟨rfl, by rfl⟩) denF_none) (a_cons (e_meth0 C (by decide) (e_var (z := beads945) (enc := eBeads) 9 rfl (pv 9)) T.cl_Beads T.m_Beads_greatest (ok_Beads_greatest T) T.b_Beads_greatest (fun _ => ⟨rfl, by rfl⟩) denF_none) a_nil)) (fun _ => rfl) (fun _ => small_line (by show 2 ≤ 1000; decide))))) (x_consL (b_e (e_o (o_lst (enc := eI) (g := fun z : Int × Int × Unit => [z.1, z.2.1]) (a_cons (e_var (z := total942) (enc := eI) 6 rfl (pv 6)) (a_cons (e_var (z := total942) (enc := eI) 6 rfl (pv 6)) a_nil)) (fun _ => rfl) (fun _ => small_line (by show 2 ≤ 1000; decide))))) (x_cons e_bl x_nil)))))) (ss_ret (enc := eB) (g := fun z => z) e_bl Wk.nil (fun _ => rfl)) (nn_mb fun _ => nn_rt) (ss_ifX (t_not (t_val (e_call C (by decide) (ok__law_alone T) T.g__law_alone T.k__law_alone T.b__law_alone (x_cons (e_var (z := beads945) (enc := eBeads) 9 rfl (pv 9)) (x_consL (b_var (z := sizes937) (enc := eI) 3 rfl (pv 3)) (x_consL (b_var (z := due941) (enc := eI) 5 rfl (pv 5)) (x_cons (e_ixL (enc := eI) (b_var (z := places940) (enc := eI) 4 rfl (pv 4)) (e_neg e_int)) x_nil))))))) (ss_ret (enc := eB) (g := fun z => z) e_bl Wk.nil (fun _ => rfl)) (nn_mb fun _ => nn_rt) (ss_asg (enc := eI) (i := 10) C.nd (e_ixL (enc := eI) (b_e (e_o (o_lst (enc := eI) (g := fun z : Int × Int × Int × Unit => [z.1, z.2.1, z.2.2.1]) (a_cons e_int (a_cons e_int (a_cons (e_var (z := j935) (enc := eI) 2 rfl (pv 2)) a_nil))) (fun _ => rfl) (fun _ => small_line (by show 3 ≤ 1000; decide))))) (e_ixL (enc := eI) (b_var (z := draws927) (enc := eI) 1 rfl (pv 1)) e_int)) (fun most955 => (ss_if (N := fun (j966 : List (List Int)) => [.fr (eScr script), .ow (List.map eI draws927), .fr (eI j935), .ow (List.map eI sizes937), .ow (List.map eI places940), .ow (List.map eI due941), .fr (eI total942), .ow (List.map eI given943), .ow (List.map eI passed944), .fr (eBeads beads945), .fr (eI most955), .ow (List.map (eL eI) j966)]) (t_w (w_orP (t_cmp c_eq (b_e (e_ixL (enc := eI) (b_var (z := draws927) (enc := eI) 1 rfl (pv 1)) e_int)) (b_e e_int) rfl) (w_or1 (t_cmp c_gt (b_e (e_var (z := j935) (enc := eI) 2 rfl (pv 2))) (b_e e_int) rfl)) rfl)) (ss_asgO (i := 11) C.nd (o_call C (by decide) (ok__law_handfuls T) T.g__law_handfuls T.k__law_handfuls T.b__law_handfuls (x_cons (e_call C (by decide) (ok__law_cell T) T.g__law_cell T.k__law_cell T.b__law_cell (x_cons (e_var (z := script) (enc := eScr) 0 rfl (pv 0)) (x_cons e_int x_nil))) (x_cons (e_var (z := j935) (enc := eI) 2 rfl (pv 2)) (x_cons (e_var (z := most955) (enc := eI) 10 rfl (pv 10)) x_nil)))) (fun order963 => (ss_nil (b := order963) (wk_e (wk_e (wk_e (wk_e (wk_e (wk_e (wk_e (wk_e (wk_e (wk_e (wk_e (wk_e wk_n)))))))))))))) Wk.nil) (ss_asgO (i := 11) C.nd (o_call C (by decide) (ok__law_order T) T.g__law_order T.k__law_order T.b__law_order (x_cons (e_call C (by decide) (ok__law_cell T) T.g__law_cell T.k__law_cell T.b__law_cell (x_cons (e_var (z := script) (enc := eScr) 0 rfl (pv 0)) (x_cons e_int x_nil))) (x_cons e_bl (x_consL (b_var (z := sizes937) (enc := eI) 3 rfl (pv 3)) (x_consL (b_var (z := due941) (enc := eI) 5 rfl (pv 5)) (x_cons (e_var (z := most955) (enc := eI) 10 rfl (pv 10)) x_nil)))))) (fun order965 => (ss_nil (b := order965) (wk_e (wk_e (wk_e (wk_e (wk_e (wk_e (wk_e (wk_e (wk_e (wk_e (wk_e (wk_e wk_n)))))))))))))) Wk.nil) (fun j966 => (ss_ifX (t_not (t_val (e_call C (by decide) (ok__law_kept T) T.g__law_kept T.k__law_kept T.b__law_kept (x_consL (b_var (z := sizes937) (enc := eI) 3 rfl (pv 3)) (x_consL (b_var (z := due941) (enc := eI) 5 rfl (pv 5)) (x_consL (b_var (z := j966) (enc := (eL eI)) 11 rfl (pv 11)) (x_cons (e_ixL (enc := eI) (b_var (z := places940) (enc := eI) 4 rfl (pv 4)) (e_neg e_int)) x_nil))))))) (ss_ret (enc := eB) (g := fun z => z) e_bl Wk.nil (fun _ => rfl)) (nn_mb fun _ => nn_rt) (ss_ret (enc := eB) (g := fun z => z) (e_call C (by decide) (ok__law_is_standing T) T.g__law_is_standing T.k__law_is_standing T.b__law_is_standing (x_cons (e_callK C (by decide) (ok_woken_once_v1 T) T.g_woken_once T.k_woken_once T.kf_woken_once_2_ring (x_cons (e_tuple (enc := eI) T.n_tuple (pa_cons (b_var (z := sizes937) (enc := eI) 3 rfl (pv 3)) pa_nil)) (x_cons (e_tuple (enc := eI) T.n_tuple (pa_cons (b_var (z := places940) (enc := eI) 4 rfl (pv 4)) pa_nil)) x_nil)) (k_cons e_bl k_nil) (fun _ => rfl) (fun _ => rfl) (ak (mk := fun (z : ((List Int) × (List Int) × Unit)) (y : _ × Unit) => (z.1, z.2.1, y.1, ())) fun _ _ => rfl)) (x_cons e_bl (x_consL (b_var (z := sizes937) (enc := eI) 3 rfl (pv 3)) (x_consL (b_var (z := due941) (enc := eI) 5 rfl (pv 5)) x_nil))))) Wk.nil (fun _ => rfl)) Wk.nil)) Wk.nil)) Wk.nil) Wk.nil) Wk.nil) Wk.nil)) Wk.nil)) Wk.nil)) Wk.nil)) Wk.nil)) Wk.nil)) Wk.nil)) Wk.nil)) Wk.nil)) Wk.nil)) Wk.nil) (by simp only [mbk, mba, sqk, sqa, c_law])) (.inl rfl)
end
/-! ### the plain law -/
theorem q_cell : f__law_cell = k__law_cell := rfl
theorem q_draws : f__law_draws = k__law_draws := rfl
theorem q_lengths : f__law_lengths = k__law_lengths := rfl
theorem q_init : f_Beads___init__ = k_Beads___init__ := rfl
theorem q_init1 : f_Beads___init___v1 = k_Beads___init__ := rfl
theorem q_isint : f__law_is_integer = k__law_is_integer := rfl
theorem q_num : f__law_numbers = k__law_numbers_v1 := rfl
theorem q_numL : f__law_numbers_v1 = k__law_numbers := rfl
theorem q_woken : f__law_woken = k__law_woken := rfl
theorem q_lrest : f__law_restless = k__law_restless := rfl
theorem q_rest : f_restless = k_restless := rfl
theorem q_leaders : f_leaders_of = k_leaders_of := rfl
theorem q_standing : f__law_is_standing = k__law_is_standing := rfl
theorem q_reach : f__law_reach = k__law_reach := rfl
theorem q_wake (b : BV) (ps : List Int) : f_wake b ps = k_wake b (false, ps) := rfl
theorem q_check1 : f_check_order_v1 = f_check_order := rfl
theorem q_once1 : f_woken_once_v1 = f_woken_once := rfl
/-! #### the standing that is left -/
def oneV (r : Bool) (zs ss : List Int) (p : Int) : List Int := wkV ⟨ss, zs, r⟩ [p]
def startV (zs : List Int) : List Int := List.replicate zs.length zs.sum
def endV (r : Bool) (zs ps : List Int) : List Int := ps.foldl (oneV r zs) (startV zs)
structure Sizes (zs : List Int) : Prop where
  ne : 0 < zs.length
  big : zs.length ≤ 1000
  l1 : ∀ z ∈ zs, 1 ≤ z ∧ z ≤ 1000000000
theorem good_start {r : Bool} {zs : List Int} (h : Sizes zs) : Good ⟨startV zs, zs, r⟩ := by
  refine ⟨?_, ?_, ?_, ?_, fun z hz => (h.l1 z hz).1⟩
  · show 0 < (startV zs).length
    unfold startV; rw [List.length_replicate]; exact h.ne
  · show zs.length = (startV zs).length
    unfold startV; rw [List.length_replicate]
  · show (startV zs).length ≤ 90000
    unfold startV; rw [List.length_replicate]; have := h.big; omega
  · intro s hs
    rw [(List.mem_replicate.mp hs).2]
    exact (le_sum h.l1).1
theorem start_len (zs : List Int) : (startV zs).length = zs.length := List.length_replicate ..
theorem one_good {r : Bool} {zs ss : List Int} {p : Int} (g : Good ⟨ss, zs, r⟩ ∧ ss.length = zs.length) : Good ⟨oneV r zs ss p, zs, r⟩ ∧ (oneV r zs ss p).length = zs.length :=
  ⟨good_wk (qs := [p]) g.1, (wkV_len _ _).trans g.2⟩
theorem end_good {r : Bool} {zs : List Int} : ∀ (ps ss : List Int), Good ⟨ss, zs, r⟩ ∧ ss.length = zs.length → Good ⟨ps.foldl (oneV r zs) ss, zs, r⟩ ∧ (ps.foldl (oneV r zs) ss).length = zs.length
  | [], _, g => g
  | p :: ps, ss, g => end_good ps (oneV r zs ss p) (one_good g)
theorem startK {zs : List Int} (h : Sizes zs) : repM [zs.sum] (zs.length : Int) = .ok (startV zs) := by
  have := h.big
  rw [rep1 (by omega) (by omega)]
  rfl
theorem leftK {r : Bool} {zs ps : List Int} (h : Sizes zs) (hp : ∀ p ∈ ps, 0 ≤ p ∧ p < (zs.length : Int)) : f__law_left r zs ps = .ok (endV r zs ps) := by
  unfold f__law_left c__law_left
  rw [startK h, mbk, q_reach]
  have key := forM_all (δ := Empty) (ρ := List Int) (f := fun (place : Int) (s : List Int) => mb (k__law_reach r zs s place) fun v => mb (setM s place v) fun now => (.ok (.nx now) : M (Out (List Int) (List Int) (List Int)))) (oneV r zs) (fun ss => Good ⟨ss, zs, r⟩ ∧ ss.length = zs.length) (xs := ps) (s0 := startV zs) ⟨good_start h, start_len zs⟩ (fun p hp' s g => by
    refine ⟨?_, one_good g⟩
    have b := hp p hp'
    have hl := g.2
    have hb := h.big
    rw [lawReachK hl.symm (by omega) b.1 (by omega), mbk, setK b.1 (by omega), mbk]
    have w := wkV_set (b := ⟨s, zs, r⟩) (qs := []) b.1 (show p < (s.length : Int) by omega)
    rw [wkV_nil] at w
    unfold oneV
    rw [← w])
  rw [key.1, sqk]
  rfl
/-! #### the order is looked at -/
theorem setG {α : Type} {xs : List α} {i : Int} {x : α} (h1 : 0 ≤ i) (h2 : i < xs.length) : setM xs i x = .ok (xs.set i.toNat x) := by
  obtain ⟨n, rfl⟩ := Int.eq_ofNat_of_zero_le h1
  have e : ixN xs.length (n : Int) = some n := by
    unfold ixN
    rw [if_pos h1, if_pos h2]
    rfl
  unfold setM
  rw [e]
  rfl
def fltV (n : Int) : List Int → List Int → Int → Option Int
  | [], _, _ => none
  | p :: ps, seen, k => if (decide (p < 0) || decide (n ≤ p) || decide (p ∈ seen)) = true then some k else fltV n ps (seen ++ [p]) (k + 1)
def chkB (n : Int) (x : Int × Int) (s : List Bool) : M (Out (List Bool) (List Bool) Unit) :=
  mb (if (decide (x.2 < 0)) = true then .ok true else if (decide (n ≤ x.2)) = true then .ok true else ixM s x.2) fun v => if v = true then .er ⟨"BadOrder", [("index", eI x.1)]⟩
    else mb (setM s x.2 true) fun named => .ok (.nx named)
def Nm (n : Int) (seen : List Int) (nm : List Bool) : Prop := (nm.length : Int) = n ∧ ∀ j : Nat, j < nm.length → nm[j]? = some (decide ((j : Int) ∈ seen))
theorem chkStepB {n : Int} {k p : Int} {nm : List Bool} (h : p < 0 ∨ n ≤ p) : chkB n (k, p) nm = .er ⟨"BadOrder", [("index", eI k)]⟩ := by
  unfold chkB
  by_cases q : p < 0
  · simp [q]
  · have : n ≤ p := by omega
    simp [q, this]
theorem chkStepO {n : Int} {k p : Int} {seen : List Int} {nm : List Bool} (i : Nm n seen nm) (h1 : 0 ≤ p) (h2 : p < n) : chkB n (k, p) nm = if decide (p ∈ seen) = true then .er ⟨"BadOrder", [("index", eI k)]⟩ else .ok (.nx (nm.set p.toNat true)) := by
  unfold chkB
  have e : ixM nm p = .ok (decide (p ∈ seen)) := by
    have hl := i.1
    refine ixE h1 ?_
    rw [i.2 p.toNat (by omega), show ((p.toNat : Nat) : Int) = p by omega]
  rw [if_neg (by simp; omega), if_neg (by simp; omega)]
  simp only [e, mbk]
  have hl := i.1
  rw [setG h1 (by omega)]
  simp only [mbk]
theorem nm_set {n p : Int} {seen : List Int} {nm : List Bool} (i : Nm n seen nm) (h1 : 0 ≤ p) (h2 : p < n) : Nm n (seen ++ [p]) (nm.set p.toNat true) := by
  refine ⟨by rw [List.length_set]; exact i.1, fun j hj => ?_⟩
  rw [List.length_set] at hj
  rw [List.getElem?_set]
  by_cases q : p.toNat = j
  · rw [if_pos q, if_pos (by omega)]
    have : (j : Int) ∈ seen ++ [p] := List.mem_append.mpr (.inr (by rw [List.mem_singleton]; omega))
    rw [decide_eq_true this]
  · rw [if_neg q, i.2 j hj]
    congr 1
    have e : ((j : Int) ∈ seen ++ [p]) ↔ (j : Int) ∈ seen := by
      rw [List.mem_append, List.mem_singleton]
      constructor
      · rintro (h | h)
        · exact h
        · omega
      · exact .inl
    simp only [e]
theorem chkLoop {n : Int} {δ : Type} : ∀ (ps : List Int) (k : Int) (seen : List Int) (nm : List Bool), Nm n seen nm → match fltV n ps seen k with
    | some j => (forM (chkB n) ((rng k (k + ps.length)).zip ps) nm : M (Out (List Bool) δ Unit)) = .er ⟨"BadOrder", [("index", eI j)]⟩
    | none => ∃ m, (forM (chkB n) ((rng k (k + ps.length)).zip ps) nm : M (Out (List Bool) δ Unit)) = .ok (.nx m)
  | [], k, seen, nm, i => by
    show ∃ m, (forM (chkB n) ((rng k (k + ([] : List Int).length)).zip []) nm : M (Out (List Bool) δ Unit)) = .ok (.nx m)
    rw [List.zip_nil_right]
    exact ⟨nm, rfl⟩
  | p :: ps, k, seen, nm, i => by
    have ez : (rng k (k + ((p :: ps).length : Int))).zip (p :: ps) = (k, p) :: (rng (k + 1) (k + 1 + (ps.length : Int))).zip ps := by
      rw [rng_cons (by rw [List.length_cons]; omega), List.zip_cons_cons, List.length_cons, show k + ((ps.length + 1 : Nat) : Int) = k + 1 + (ps.length : Int) by omega]
    rw [ez]
    by_cases q : p < 0 ∨ n ≤ p
    · have e : fltV n (p :: ps) seen k = some k := by
        unfold fltV
        refine if_pos ?_
        rcases q with q | q <;> simp [q]
      rw [e]
      show (forM (chkB n) _ nm : M (Out (List Bool) δ Unit)) = _
      unfold forM
      rw [chkStepB q]
    · have b : 0 ≤ p ∧ p < n := by omega
      by_cases s : p ∈ seen
      · have e : fltV n (p :: ps) seen k = some k := by
          unfold fltV
          exact if_pos (by simp [s])
        rw [e]
        show (forM (chkB n) _ nm : M (Out (List Bool) δ Unit)) = _
        unfold forM
        rw [chkStepO i b.1 b.2, if_pos (decide_eq_true s)]
      · have e : fltV n (p :: ps) seen k = fltV n ps (seen ++ [p]) (k + 1) := by
          rw [fltV]
          exact if_neg (by simp [s]; omega)
        have st : chkB n (k, p) nm = .ok (.nx (nm.set p.toNat true)) := by rw [chkStepO i b.1 b.2, if_neg (by simp [s])]
        have fe : (forM (chkB n) ((k, p) :: (rng (k + 1) (k + 1 + (ps.length : Int))).zip ps) nm : M (Out (List Bool) δ Unit)) = forM (chkB n) ((rng (k + 1) (k + 1 + (ps.length : Int))).zip ps) (nm.set p.toNat true) := by
          rw [forM]
          simp only [st]
        rw [e, fe]
        exact chkLoop ps (k + 1) (seen ++ [p]) (nm.set p.toNat true) (nm_set i b.1 b.2)
theorem checkOrder {n : Nat} {ps : List Int} (hn : n ≤ 1000) : f_check_order ps n = match fltV n ps [] 0 with
    | some j => .er ⟨"BadOrder", [("index", eI j)]⟩
    | none => if (ps.length : Int) < n then .er ⟨"BadOrder", [("index", eI (ps.length : Int))]⟩ else .ok () := by
  unfold f_check_order c_check_order
  rw [rep1 (by omega) (by omega), mbk]
  have i : Nm n [] (List.replicate (n : Int).toNat false) := by
    refine ⟨by rw [List.length_replicate]; omega, fun j hj => ?_⟩
    rw [List.length_replicate] at hj
    rw [List.getElem?_replicate, if_pos hj]
    simp
  have key := chkLoop (δ := Empty) ps 0 [] _ i
  have ez : enm ps = (rng 0 (0 + (ps.length : Int))).zip ps := by unfold enm; rw [Int.zero_add]
  rw [ez]
  cases hf : fltV n ps [] 0 with
  | some j =>
    rw [hf] at key
    simp only at key
    unfold chkB at key
    rw [key]
    rfl
  | none =>
    rw [hf] at key
    obtain ⟨m, key⟩ := key
    unfold chkB at key
    rw [key, sqk]
    by_cases q : (ps.length : Int) < n
    · rw [if_pos (decide_eq_true q), if_pos q]; rfl
    · rw [if_neg (by simp only [decide_eq_true_eq]; exact q), if_neg q]; rfl
theorem flt_none {n : Int} : ∀ (ps seen : List Int) (k : Int), fltV n ps seen k = none ↔ (∀ p ∈ ps, (0 ≤ p ∧ p < n) ∧ p ∉ seen) ∧ ps.Nodup
  | [], seen, k => by simp [fltV]
  | p :: ps, seen, k => by
    rw [fltV]
    by_cases q : (decide (p < 0) || decide (n ≤ p) || decide (p ∈ seen)) = true
    · rw [if_pos q]
      constructor
      · intro h; cases h
      · intro h
        have := h.1 p List.mem_cons_self
        simp only [Bool.or_eq_true, decide_eq_true_eq] at q
        rcases q with (q | q) | q
        · omega
        · omega
        · exact absurd q this.2
    · rw [if_neg q, flt_none ps (seen ++ [p]) (k + 1)]
      simp only [Bool.or_eq_true, decide_eq_true_eq, not_or] at q
      rw [List.nodup_cons]
      constructor
      · rintro ⟨h1, h2⟩
        refine ⟨fun x hx => ?_, ?_, h2⟩
        · rcases List.mem_cons.mp hx with rfl | hx
          · exact ⟨by omega, q.2⟩
          · have := h1 x hx
            exact ⟨this.1, fun z => this.2 (List.mem_append.mpr (.inl z))⟩
        · intro hx
          exact (h1 p hx).2 (List.mem_append.mpr (.inr (List.mem_singleton.mpr rfl)))
      · rintro ⟨h1, h2, h3⟩
        refine ⟨fun x hx => ?_, h3⟩
        have := h1 x (List.mem_cons_of_mem _ hx)
        refine ⟨this.1, fun z => ?_⟩
        rcases List.mem_append.mp z with z | z
        · exact this.2 z
        · rw [List.mem_singleton] at z
          exact h2 (z ▸ hx)
/-! #### the program's own -/
theorem wakeOne {r : Bool} {zs ss : List Int} {p : Int} (g : Good ⟨ss, zs, r⟩) (h1 : 0 ≤ p) (h2 : p < ss.length) : f_wake ⟨ss, zs, r⟩ [p] = .ok ⟨oneV r zs ss p, zs, r⟩ := by
  rw [q_wake]
  exact wakeK g (fun x hx => by rw [List.mem_singleton] at hx; subst hx; exact ⟨h1, h2⟩) (by simp)
theorem forM_nx {α γ δ ρ : Type} {f : α → γ → M (Out γ γ ρ)} {x : α} {xs : List α} {s t : γ} (h : f x s = .ok (.nx t)) : (forM f (x :: xs) s : M (Out γ δ ρ)) = forM f xs t := by
  rw [forM]
  simp only [h]
def onB (place : Int) (s : BV) : M (Out BV BV BV) := mb (f_wake s [place]) fun b => .ok (.nx b)
theorem onStep {r : Bool} {zs ss : List Int} {p : Int} (g : Good ⟨ss, zs, r⟩) (h1 : 0 ≤ p) (h2 : p < ss.length) : onB p ⟨ss, zs, r⟩ = .ok (.nx ⟨oneV r zs ss p, zs, r⟩) := by
  unfold onB
  rw [wakeOne g h1 h2, mbk]
theorem onceLoop {r : Bool} {zs : List Int} {δ : Type} : ∀ (ps ss : List Int), Good ⟨ss, zs, r⟩ ∧ ss.length = zs.length → (∀ p ∈ ps, 0 ≤ p ∧ p < (zs.length : Int)) → (forM onB ps ⟨ss, zs, r⟩ : M (Out BV δ BV)) = .ok (.nx ⟨ps.foldl (oneV r zs) ss, zs, r⟩)
  | [], ss, _, _ => rfl
  | p :: ps, ss, g, h => by
    have b := h p List.mem_cons_self
    have hl := g.2
    rw [forM_nx (onStep g.1 b.1 (by omega))]
    exact onceLoop ps _ (one_good g) fun x hx => h x (List.mem_cons_of_mem _ hx)
theorem onceK {r : Bool} {zs ps : List Int} (h : Sizes zs) (hp : ∀ p ∈ ps, 0 ≤ p ∧ p < (zs.length : Int)) (nd : ps.Nodup) (hl : ps.length = zs.length) : f_woken_once zs ps r = .ok ⟨endV r zs ps, zs, r⟩ := by
  unfold f_woken_once c_woken_once
  have f0 : fltV zs.length ps [] 0 = none := (flt_none ps [] 0).mpr ⟨fun p hm => ⟨hp p hm, by simp⟩, nd⟩
  rw [checkOrder h.big, f0]
  simp only
  have key := onceLoop (δ := Empty) ps _ (⟨good_start h, start_len zs⟩ : Good ⟨startV zs, zs, r⟩ ∧ _) hp
  unfold onB at key
  rw [if_neg (by omega), mbk, startK h, mbk, q_init, initK (good_start h), mbk, key, sqk]
  rfl
/-! #### the drawn order -/
theorem popAtK {α : Type} {xs : List α} {i : Int} (h1 : 0 ≤ i) (h2 : i < xs.length) (h3 : xs.length ≤ 1000000) : ∃ x, xs[i.toNat]? = some x ∧ popAtM xs i = .ok (x, xs.eraseIdx i.toNat) := by
  have hl : i.toNat < xs.length := by omega
  refine ⟨xs[i.toNat], List.getElem?_eq_getElem hl, ?_⟩
  unfold popAtM
  rw [if_pos ⟨h1, by omega⟩, List.getElem?_eq_getElem hl]
theorem erase_perm {α : Type} {x : α} : ∀ {xs : List α} {i : Nat}, xs[i]? = some x → (x :: xs.eraseIdx i).Perm xs
  | [], i, h => by simp at h
  | y :: ys, 0, h => by
    simp at h
    subst h
    exact .refl _
  | y :: ys, i + 1, h => by
    rw [List.getElem?_cons_succ] at h
    rw [List.eraseIdx_cons_succ]
    exact (List.Perm.swap y x _).trans ((erase_perm h).cons y)
def shB (draw : Int) (s : List Int × List Int) : M (Out (List Int × List Int) (List Int × List Int) (List Int)) :=
  mb (popAtM s.2 draw) fun u => mb (app s.1 u.1) fun places => (fun (left : List Int) => .ok (.nx (places, left))) u.2
theorem shLoop {δ : Type} {P : List Int} : ∀ (ds : List Int) (a l : List Int), (a ++ l).Perm P → P.length ≤ 100000 → l.length = ds.length → (∀ (i : Nat) (d : Int), ds[i]? = some d → 0 ≤ d ∧ d < (ds.length : Int) - i) →
    ∃ b, (forM shB ds (a, l) : M (Out (List Int × List Int) δ (List Int))) = .ok (.nx (b, [])) ∧ b.Perm P
  | [], a, l, h, _, hl, _ => by
    have : l = [] := List.eq_nil_of_length_eq_zero hl
    subst this
    rw [List.append_nil] at h
    exact ⟨a, rfl, h⟩
  | d :: ds, a, l, h, hP, hl, hd => by
    have b := hd 0 d rfl
    rw [List.length_cons] at b hl
    have pl := h.length_eq
    rw [List.length_append] at pl
    obtain ⟨x, hx, e⟩ := popAtK (xs := l) b.1 (by omega) (by omega)
    have st : shB d (a, l) = .ok (.nx (a ++ [x], l.eraseIdx d.toNat)) := by
      unfold shB
      rw [e, mbk, appK (by show a.length ≤ _; omega), mbk]
    unfold forM
    rw [st]
    have hlt : d.toNat < l.length := (List.getElem?_eq_some_iff.mp hx).1
    refine shLoop ds _ _ ?_ hP (by rw [List.length_eraseIdx, if_pos hlt]; omega) fun i y hy => ?_
    · rw [List.append_assoc]
      exact ((erase_perm hx).append_left a).trans h
    · have := hd (i + 1) y (by simpa using hy)
      rw [List.length_cons] at this
      omega
theorem rng_nodup (n : Int) : (rng 0 n).Nodup := (rng_sorted n).imp fun h => by omega
theorem shuffledK (c : Int) {n : Nat} (hn : n ≤ 1000) : ∃ ps, f__law_shuffled c n = .ok ps ∧ ps.length = n ∧ (∀ p ∈ ps, 0 ≤ p ∧ p < (n : Int)) ∧ ps.Nodup ∧ ps.Perm (rng 0 n) := by
  unfold f__law_shuffled c__law_shuffled
  have ml : (rng 0 (n : Int)).length ≤ 1000000 := by rw [rng_len]; omega
  rw [rngK (by decide) (by decide) (by omega) (by omega), mbk, mapCk (g := fun k => k) ml, List.map_id', mbk, mbk, mapCk (g := fun k => (n : Int) - k) ml, mbk, q_draws]
  have sg : ∀ (i : Nat) (s : Int), ((rng 0 (n : Int)).map fun k => (n : Int) - k)[i]? = some s → s = (n : Int) - i ∧ i < n := fun i s hs => by
    rw [List.getElem?_map] at hs
    obtain ⟨k, hk, rfl⟩ := Option.map_eq_some_iff.mp hs
    have := rng_getE hk
    omega
  obtain ⟨ds, e, dr⟩ := drawsK c (sizes := (rng 0 (n : Int)).map fun k => (n : Int) - k) (by rw [List.length_map, rng_len]; omega) (by
    intro s hs
    obtain ⟨k, hk, rfl⟩ := List.mem_map.mp hs
    have := mem_rng.mp hk
    omega)
  rw [e, mbk]
  have dl : ds.length = n := by rw [dr.1, List.length_map, rng_len]; omega
  obtain ⟨b, e2, hb⟩ := shLoop (δ := Empty) (P := rng 0 n) ds [] (rng 0 n) (.refl _) (by rw [rng_len]; omega) (by rw [rng_len]; omega) fun i d hd => by
    have hi : i < ds.length := (List.getElem?_eq_some_iff.mp hd).1
    have hs : ∃ s, ((rng 0 (n : Int)).map fun k => (n : Int) - k)[i]? = some s := ⟨_, List.getElem?_eq_getElem (by rw [← dr.1]; exact hi)⟩
    obtain ⟨s, hs⟩ := hs
    have := dr.2 i s d hs hd
    have := sg i s hs
    omega
  unfold shB at e2
  rw [e2, sqk]
  refine ⟨b, rfl, by rw [hb.length_eq, rng_len]; omega, fun p hp => mem_rng.mp (hb.mem_iff.mp hp), hb.nodup_iff.mpr (rng_nodup n), hb⟩
/-! #### one tall leader -/
theorem map_sAt (zs : List Int) : (rng 0 zs.length).map (sAt zs) = zs := by
  have h := fst_rng zs (fun _ => 0)
  rw [List.map_map] at h
  exact h
theorem nn_of {zs : List Int} (h : ∀ z ∈ zs, 1 ≤ z) (k : Int) : 0 ≤ sAt zs k := by
  unfold sAt
  rw [List.getD_eq_getElem?_getD]
  cases q : zs[k.toNat]? with
  | none => exact Int.le_refl 0
  | some z =>
    have := h z (List.mem_of_getElem? q)
    show 0 ≤ z
    omega
theorem cover {zs : List Int} {p : Int} (h1 : 0 ≤ p) (h2 : p < zs.length) : sAt zs p + ((runsV true zs.length p).map (sAt zs)).sum = zs.sum := by
  have e : (rng 0 zs.length).map (sAt zs) = zs := map_sAt zs
  have s : rng 0 (zs.length : Int) = rng 0 p ++ (p :: rng (p + 1) zs.length) := by
    rw [rng_app h1 (Int.le_of_lt h2), rng_cons h2]
  have t : ((rng 0 zs.length).map (sAt zs)).sum = zs.sum := by rw [e]
  rw [s] at t
  unfold runsV
  rw [if_pos rfl]
  simp only [List.map_append, List.map_cons, List.sum_append, List.sum_cons] at t ⊢
  omega
theorem tw_lt {f : Int → Int} {q : Int → Bool} {p : Int} (hf : ∀ x, 0 ≤ f x) (hq : q p = false) : ∀ {xs : List Int}, p ∈ xs → ((xs.takeWhile q).map f).sum + f p ≤ (xs.map f).sum
  | x :: xs, h => by
    have nn : 0 ≤ (xs.map f).sum := sum_nn fun y hy => by
      obtain ⟨z, _, rfl⟩ := List.mem_map.mp hy
      exact hf z
    by_cases c : q x = true
    · have hx : p ∈ xs := by
        rcases List.mem_cons.mp h with e | e
        · rw [e, c] at hq; cases hq
        · exact e
      have := tw_lt hf hq hx
      rw [List.takeWhile_cons, if_pos c]
      simp only [List.map_cons, List.sum_cons]
      omega
    · rw [List.takeWhile_cons, if_neg c]
      simp only [List.map_cons, List.sum_cons, List.map_nil, List.sum_nil]
      rcases List.mem_cons.mp h with e | e
      · subst e
        omega
      · have h2 := hf x
        have : f p ≤ (xs.map f).sum := by
          have := tw_lt (q := fun y => !decide (y = p)) hf (by simp) e
          have h3 : 0 ≤ ((xs.takeWhile fun y => !decide (y = p)).map f).sum := sum_nn fun y hy => by
            obtain ⟨z, _, rfl⟩ := List.mem_map.mp hy
            exact hf z
          omega
        omega
theorem low_reach {zs ss : List Int} {p q : Int} (g : Good ⟨ss, zs, true⟩) (hp : 0 ≤ p ∧ p < (ss.length : Int)) (hq : 0 ≤ q ∧ q < (ss.length : Int)) (ne : q ≠ p) (h : sAt ss q ≤ sAt ss p) : reachV ⟨ss, zs, true⟩ q < zs.sum := by
  have hl : zs.length = ss.length := g.len
  have nn := nn_of g.l1
  have hc := cover (zs := zs) hq.1 (by omega)
  have hm : p ∈ runsV true zs.length q := by
    unfold runsV
    rw [if_pos rfl]
    by_cases c : q < p
    · exact List.mem_append.mpr (.inl (mem_rng.mpr ⟨by omega, by omega⟩))
    · exact List.mem_append.mpr (.inr (mem_rng.mpr ⟨hp.1, by omega⟩))
  have t := tw_lt (f := sAt zs) (q := fun x => !decide (sAt ss q ≤ sAt ss x)) nn (by simp [h]) hm
  have zp : 1 ≤ sAt zs p := g.l1 _ (sAt_mem hp.1 (show p < (zs.length : Int) by omega))
  show sAt zs q + ((trainV true ss q).map (sAt zs)).sum < zs.sum
  unfold trainV
  rw [← hl]
  omega
theorem tw_full {q : Int → Bool} : ∀ {xs : List Int}, (∀ x ∈ xs, q x = true) → xs.takeWhile q = xs
  | [], _ => rfl
  | x :: xs, h => by rw [List.takeWhile_cons, if_pos (h x List.mem_cons_self), tw_full fun y hy => h y (List.mem_cons_of_mem _ hy)]
theorem top_reach {zs ss : List Int} {p : Int} (g : Good ⟨ss, zs, true⟩) (hp : 0 ≤ p ∧ p < (ss.length : Int)) (h : ∀ k : Int, 0 ≤ k → k < ss.length → k ≠ p → sAt ss k < sAt ss p) : reachV ⟨ss, zs, true⟩ p = zs.sum := by
  have hl : zs.length = ss.length := g.len
  have hc := cover (zs := zs) hp.1 (by omega)
  show sAt zs p + ((trainV true ss p).map (sAt zs)).sum = zs.sum
  have e : trainV true ss p = runsV true zs.length p := by
    unfold trainV
    rw [hl]
    refine tw_full fun x hx => ?_
    have b := runs_mem hp.1 hp.2 hx
    have ne : x ≠ p := by
      unfold runsV at hx
      rw [if_pos rfl] at hx
      rcases List.mem_append.mp hx with z | z
      · have := mem_rng.mp z; omega
      · have := mem_rng.mp z; omega
    have := h x b.1 b.2 ne
    have : ¬ sAt ss p ≤ sAt ss x := by omega
    simp [this]
  rw [e]
  exact hc
structure Tall (zs ss : List Int) (p : Int) : Prop where
  good : Good ⟨ss, zs, true⟩
  len : ss.length = zs.length
  at0 : 0 ≤ p
  at1 : p < ss.length
  top : sAt ss p = zs.sum
  low : ∀ k : Int, 0 ≤ k → k < ss.length → k ≠ p → sAt ss k < zs.sum
theorem Tall.wk {zs ss qs : List Int} {p : Int} (t : Tall zs ss p) : Tall zs (wkV ⟨ss, zs, true⟩ qs) p := by
  have wl : (wkV ⟨ss, zs, true⟩ qs).length = ss.length := wkV_len _ _
  refine ⟨good_wk t.good, wl.trans t.len, t.at0, by rw [wl]; exact t.at1, ?_, fun k h1 h2 ne => ?_⟩
  · rw [wkV_at t.at0 t.at1]
    split
    · exact top_reach t.good ⟨t.at0, t.at1⟩ fun k h1 h2 ne => by rw [t.top]; exact t.low k h1 h2 ne
    · exact t.top
  · rw [wl] at h2
    rw [wkV_at h1 h2]
    split
    · exact low_reach t.good ⟨t.at0, t.at1⟩ ⟨h1, h2⟩ ne (by rw [t.top]; exact Int.le_of_lt (t.low k h1 h2 ne))
    · exact t.low k h1 h2 ne
/-- while they wake in the order -/
structure Half (zs ss pre post : List Int) : Prop where
  good : Good ⟨ss, zs, true⟩
  len : ss.length = zs.length
  done : ∀ k ∈ pre, sAt ss k < zs.sum
  left : ∀ k ∈ post, sAt ss k = zs.sum
theorem last_tall {zs : List Int} : ∀ (post pre ss : List Int) (h : post ≠ []), Half zs ss pre post → (pre ++ post).Nodup → (∀ k ∈ pre ++ post, 0 ≤ k ∧ k < (zs.length : Int)) → (∀ k : Int, 0 ≤ k → k < zs.length → k ∈ pre ++ post) → Tall zs (post.foldl (oneV true zs) ss) (post.getLast h)
  | [p], pre, ss, _, i, nd, rg, cov => by
    have hl := i.len
    have hp := rg p (by simp)
    have low : ∀ k : Int, 0 ≤ k → k < ss.length → k ≠ p → sAt ss k < zs.sum := fun k h1 h2 ne => by
      have := cov k h1 (by omega)
      rcases List.mem_append.mp this with z | z
      · exact i.done k z
      · exact absurd (List.mem_singleton.mp z) ne
    have t : Tall zs ss p := ⟨i.good, hl, hp.1, by omega, i.left p (by simp), low⟩
    exact t.wk (qs := [p])
  | p :: u :: post, pre, ss, _, i, nd, rg, cov => by
    have hl := i.len
    have hp := rg p (by simp)
    have hu := rg u (by simp)
    have ndp : (p :: u :: post).Nodup := (List.nodup_append.mp nd).2.1
    have npu : p ≠ u := fun e => (List.nodup_cons.mp ndp).1 (e ▸ List.mem_cons_self)
    have wl : (oneV true zs ss p).length = ss.length := wkV_len _ _
    have at_ : ∀ k : Int, 0 ≤ k → k < zs.length → sAt (oneV true zs ss p) k = if k = p then reachV ⟨ss, zs, true⟩ p else sAt ss k := fun k h1 h2 => by
      unfold oneV
      rw [wkV_at h1 (show k < (ss.length : Int) by omega)]
      by_cases c : k = p
      · subst c; rw [if_pos List.mem_cons_self, if_pos rfl]
      · rw [if_neg (by simp [c]), if_neg c]
    have i2 : Half zs (oneV true zs ss p) (pre ++ [p]) (u :: post) := by
      refine ⟨good_wk (qs := [p]) i.good, wl.trans hl, fun k hk => ?_, fun k hk => ?_⟩
      · rcases List.mem_append.mp hk with z | z
        · have b := rg k (List.mem_append.mpr (.inl z))
          have ne : k ≠ p := fun e => (List.nodup_append.mp nd).2.2 k z p List.mem_cons_self e
          rw [at_ k b.1 b.2, if_neg ne]
          exact i.done k z
        · have e := List.mem_singleton.mp z
          subst e
          rw [at_ k hp.1 hp.2, if_pos rfl]
          exact low_reach i.good (p := u) (q := k) ⟨hu.1, by omega⟩ ⟨hp.1, by omega⟩ npu (by rw [i.left k List.mem_cons_self, i.left u (by simp)]; exact Int.le_refl _)
      · have b := rg k (List.mem_append.mpr (.inr (List.mem_cons_of_mem _ hk)))
        have ne : k ≠ p := fun e => (List.nodup_cons.mp ndp).1 (e ▸ hk)
        rw [at_ k b.1 b.2, if_neg ne]
        exact i.left k (List.mem_cons_of_mem _ hk)
    have e : pre ++ [p] ++ u :: post = pre ++ p :: u :: post := by simp
    exact last_tall (u :: post) (pre ++ [p]) (oneV true zs ss p) (by simp) i2 (e ▸ nd) (e ▸ rg) (e ▸ cov)
theorem sAt_start {zs : List Int} {k : Int} (h1 : 0 ≤ k) (h2 : k < zs.length) : sAt (startV zs) k = zs.sum := by
  have := sAt_mem (xs := startV zs) h1 (by rw [start_len]; exact h2)
  exact (List.mem_replicate.mp this).2
theorem end_tall {zs ps : List Int} (h : Sizes zs) (hp : ∀ p ∈ ps, 0 ≤ p ∧ p < (zs.length : Int)) (nd : ps.Nodup) (cov : ∀ k : Int, 0 ≤ k → k < zs.length → k ∈ ps) (ne : ps ≠ []) : Tall zs (endV true zs ps) (ps.getLast ne) :=
  last_tall ps [] (startV zs) ne ⟨good_start h, start_len zs, fun k hk => by simp at hk, fun k hk => sAt_start (hp k hk).1 (hp k hk).2⟩ (by simpa using nd) (by simpa using hp) (by simpa using cov)
/-! #### what is told of it -/
theorem maxK {xs : List Int} (h : xs ≠ []) : ∃ m, maxI xs = .ok m ∧ m ∈ xs ∧ ∀ y ∈ xs, y ≤ m := by
  cases xs with
  | nil => exact absurd rfl h
  | cons x xs =>
    obtain ⟨h1, h2⟩ := foldl_max xs x
    exact ⟨_, rfl, h1, h2⟩
theorem sAt_of {xs : List Int} {x : Int} (h : x ∈ xs) : ∃ k : Int, 0 ≤ k ∧ k < xs.length ∧ sAt xs k = x := by
  obtain ⟨i, hi, rfl⟩ := List.mem_iff_getElem.mp h
  refine ⟨i, by omega, by omega, ?_⟩
  unfold sAt
  rw [List.getD_eq_getElem?_getD, Int.toNat_natCast, List.getElem?_eq_getElem hi]
  rfl
theorem filter_one {n p : Int} {q : Int → Bool} (h1 : 0 ≤ p) (h2 : p < n) (hp : q p = true) (hn : ∀ k, 0 ≤ k → k < n → k ≠ p → q k = false) : (rng 0 n).filter q = [p] := by
  rw [rng_app h1 (Int.le_of_lt h2), rng_cons h2, List.filter_append, List.filter_cons_of_pos hp]
  have e1 : (rng 0 p).filter q = [] := List.filter_eq_nil_iff.mpr fun k hk => by
    have := mem_rng.mp hk
    rw [hn k (by omega) (by omega) (by omega)]
    decide
  have e2 : (rng (p + 1) n).filter q = [] := List.filter_eq_nil_iff.mpr fun k hk => by
    have := mem_rng.mp hk
    rw [hn k (by omega) (by omega) (by omega)]
    decide
  rw [e1, e2]
  rfl
theorem greatK {zs ss : List Int} {p : Int} (t : Tall zs ss p) : f_Beads_greatest ⟨ss, zs, true⟩ = .ok zs.sum := by
  have ne : ss ≠ [] := List.length_pos_iff.mp t.good.ne
  obtain ⟨m, e, hm, h⟩ := maxK ne
  obtain ⟨k, k1, k2, ek⟩ := sAt_of hm
  have a := h _ (sAt_mem t.at0 t.at1)
  rw [t.top] at a
  have : m = zs.sum := by
    by_cases c : k = p
    · subst c; rw [← ek]; exact t.top
    · have := t.low k k1 k2 c
      omega
  unfold f_Beads_greatest c_Beads_greatest
  show fnV .no (mb (maxI ss) fun v => .ok (.rt v)) = _
  rw [e, mbk, this]
  rfl
theorem totalK (b : BV) : f_Beads_total b = .ok b.lengths.sum := rfl
theorem canK {zs ss : List Int} {p : Int} (t : Tall zs ss p) : f_can_lead ⟨ss, zs, true⟩ = .ok [p] := by
  unfold f_can_lead c_can_lead
  have hb : ss.length ≤ 90000 := t.good.big
  have e : f_check_tall ⟨ss, zs, true⟩ = .ok () := by
    unfold f_check_tall c_check_tall
    rw [show f_check_ring ⟨ss, zs, true⟩ = .ok () from rfl, mbk, greatK t, totalK]
    simp only [mbk]
    rw [if_neg (by simp)]
    rfl
  rw [e, mbk, totalK, mbk]
  show fnV .no (mb (mb (rngM 0 (ss.length : Int)) fun v => lcM (fun place => mb (ixM ss place) fun w => (.ok (decide (zs.sum ≤ w)))) (fun place => (.ok place)) v) fun v => .ok (.rt v)) = _
  rw [rngK (by decide) (by decide) (by omega) (by omega), mbk]
  rw [lcK (fun k => decide (zs.sum ≤ sAt ss k)) (fun k => k) (by rw [rng_len]; omega) (fun k hk => by
    have := mem_rng.mp hk
    rw [ixS this.1 this.2, mbk]) (fun _ _ => rfl), List.map_id', filter_one t.at0 t.at1 (by rw [t.top]; simp) fun k h1 h2 ne => by
      have := t.low k h1 h2 ne
      rw [decide_eq_false (by omega)]]
  rfl
theorem strongK {zs ss : List Int} {p : Int} (t : Tall zs ss p) : f_strongest_of ⟨ss, zs, true⟩ = .ok [p] := by
  unfold f_strongest_of c_strongest_of
  have hb : ss.length ≤ 90000 := t.good.big
  rw [greatK t, mbk]
  show fnV .no (mb (mb (rngM 0 (ss.length : Int)) fun v => lcM (fun place => mb (ixM ss place) fun w => (.ok (decide (w = zs.sum)))) (fun place => (.ok place)) v) fun v => .ok (.rt v)) = _
  rw [rngK (by decide) (by decide) (by omega) (by omega), mbk]
  rw [lcK (fun k => decide (sAt ss k = zs.sum)) (fun k => k) (by rw [rng_len]; omega) (fun k hk => by
    have := mem_rng.mp hk
    rw [ixS this.1 this.2, mbk]) (fun _ _ => rfl), List.map_id', filter_one t.at0 t.at1 (by rw [t.top]; simp) fun k h1 h2 ne => by
      have := t.low k h1 h2 ne
      rw [decide_eq_false (by omega)]]
  rfl
theorem ixLast {α : Type} {xs : List α} (x : α) : ixM (xs ++ [x]) (-1) = .ok x := by
  have e : ixN (xs ++ [x]).length (-1) = some xs.length := by
    rw [List.length_append, List.length_singleton]
    unfold ixN
    rw [if_neg (by decide), if_pos (by omega)]
    congr 1
    omega
  unfold ixM L2.atI
  rw [e]
  show (match (xs ++ [x])[xs.length]? with | some x => M.ok x | none => .no) = _
  rw [List.getElem?_append_right (Nat.le_refl _), Nat.sub_self]
  rfl
def sbB (length : Int) (s : List Int) : M (Out (List Int) (List Int) (List Int)) := mb (mb (ixM s (-1)) fun v => (.ok (v + length))) fun v => mb (app s v) fun sums => .ok (.nx sums)
theorem sumsLoop {δ : Type} : ∀ (zs s : List Int) (a : Int), s.length + zs.length ≤ 900000 → ∃ s2, (forM sbB zs (s ++ [a]) : M (Out (List Int) δ (List Int))) = .ok (.nx (s2 ++ [a + zs.sum])) ∧ s2.length = s.length + zs.length
  | [], s, a, _ => ⟨s, by rw [List.sum_nil, Int.add_zero]; rfl, rfl⟩
  | z :: zs, s, a, h => by
    rw [List.length_cons] at h
    have st : sbB z (s ++ [a]) = .ok (.nx ((s ++ [a]) ++ [a + z])) := by
      unfold sbB
      rw [ixLast, mbk, mbk, appK (by rw [List.length_append, List.length_singleton]; omega), mbk]
    obtain ⟨s2, e, l⟩ := sumsLoop (δ := δ) zs (s ++ [a]) (a + z) (by rw [List.length_append, List.length_singleton]; omega)
    refine ⟨s2, ?_, by rw [l, List.length_append, List.length_singleton, List.length_cons]; omega⟩
    unfold forM
    rw [st]
    show forM sbB zs ((s ++ [a]) ++ [a + z]) = _
    rw [e, List.sum_cons, Int.add_assoc]
theorem sumsK {zs : List Int} (h : zs.length ≤ 90000) : ∃ s2, f_sums_before zs = .ok (s2 ++ [zs.sum]) ∧ s2.length = zs.length := by
  unfold f_sums_before c_sums_before
  obtain ⟨s2, e, l⟩ := sumsLoop (δ := Empty) zs [] 0 (by simp; omega)
  unfold sbB at e
  rw [List.nil_append] at e
  rw [e, sqk]
  rw [List.length_nil, Nat.zero_add] at l
  rw [Int.zero_add]
  exact ⟨s2, rfl, l⟩
theorem arcK {zs : List Int} {p : Int} (h : zs.length ≤ 90000) (h1 : 0 ≤ p) (h2 : p < zs.length) : f_arc_sums zs [p] = .ok [zs.sum] := by
  unfold f_arc_sums c_arc_sums
  obtain ⟨s2, e, l⟩ := sumsK h
  rw [e, mbk]
  have i1 : ixM (s2 ++ [zs.sum]) p = .ok (sAt (s2 ++ [zs.sum]) p) := ixS h1 (by rw [List.length_append, List.length_singleton]; omega)
  generalize sAt (s2 ++ [zs.sum]) p = x at i1
  rw [mapC_ok (g := fun _ => x) (lineK (by simp)) (fun y hy => by
    rw [List.mem_singleton] at hy
    subst hy
    exact i1), mbk, ixLast, mbk]
  have r1 : rngM 0 (([p] : List Int).length : Int) = .ok [0] := by
    rw [show (([p] : List Int).length : Int) = 1 from rfl]
    exact rngK (by decide) (by decide) (by decide) (by decide)
  rw [show ixM (([p] : List Int).map fun _ => x) 0 = .ok x from rfl, mbk, mbk, mbk]
  rw [show cut (([p] : List Int).map fun _ => x) (some 1) none = [] from cut1 [x], catK (by simp), mbk, r1, mbk, mapC_ok (g := fun _ => zs.sum) (lineK (by simp)) (fun y hy => by
    rw [List.mem_singleton] at hy
    subst hy
    show mb (M.ok (zs.sum + x)) (fun v => mb (M.ok x) fun w => .ok (v - w)) = _
    rw [mbk, mbk, show zs.sum + x - x = zs.sum by omega])]
  rfl
theorem cuttingK {zs ss : List Int} {p : Int} (h : zs.length ≤ 90000) (h1 : 0 ≤ p) (h2 : p < zs.length) : f_is_cutting ⟨ss, zs, true⟩ [p] = .ok true := by
  unfold f_is_cutting c_is_cutting
  rw [if_neg (by simp), show ixM [p] 0 = .ok p from rfl, mbk, mbk, if_neg (by simp; omega), show ixM [p] (-1) = .ok p from ixLast (xs := []) p, mbk, mbk]
  show fnV .no (if decide ((zs.length : Int) ≤ p) = true then _ else _) = _
  rw [if_neg (by simp; omega), rngK (by decide) (by decide) (by simp) (by simp), mbk]
  show fnV .no (sq (forM _ [] ()) _) = _
  unfold forM
  rw [sqk, arcK h h1 h2, mbk]
  show fnV .no (mb (mb (M.ok zs.sum) fun v => mb (M.ok zs.sum) fun w => .ok (decide (v = w))) fun v => .ok (.rt v)) = _
  simp only [mbk, decide_true]
  rfl
theorem settledK {zs ss : List Int} {p : Int} (t : Tall zs ss p) : f_settled_cut ⟨ss, zs, true⟩ = .ok (some [p]) := by
  have hl := t.len
  have hb : ss.length ≤ 90000 := t.good.big
  have h1 := t.at1
  unfold f_settled_cut c_settled_cut
  rw [show f_check_ring ⟨ss, zs, true⟩ = .ok () from rfl, mbk, strongK t, mbk, cuttingK (by omega) t.at0 (by omega), mbk, if_pos rfl, totalK, mbk, greatK t, mbk]
  rw [mulR (j := (([p] : List Int).length : Int)) (by show (1 : Nat) < 2 ^ 64; decide), mbk]
  show fnV (.ok none) (mb (M.ok (decide (zs.sum = zs.sum * 1))) _) = _
  rw [Int.mul_one, decide_eq_true rfl, mbk, if_pos rfl]
  rfl
theorem num2K (xs ys : List Int) : f__law_numbers_v2 (some xs) ys true = k__law_numbers_v1 xs ys true := rfl
theorem aloneK {zs ss : List Int} {p : Int} (t : Tall zs ss p) : f__law_alone ⟨ss, zs, true⟩ zs ss p = .ok true := by
  have hl := t.len
  have hb : ss.length ≤ 90000 := t.good.big
  unfold f__law_alone c__law_alone
  rw [canK t, mbk, q_numL, numbersK false (by simp)]
  simp only [mbk, decide_true, Bool.not_false, Bool.and_self, Bool.not_true, Bool.false_eq_true, if_false]
  rw [settledK t, mbk, num2K, numbersTK true (by simp)]
  simp only [mbk, decide_true, Bool.and_self, Bool.not_true, Bool.false_eq_true, if_false]
  rw [appK (by simp), mbk]
  rw [numbersK false (by simp)]
  simp only [mbk, decide_true, Bool.not_false, Bool.and_self, if_true]
  rw [q_standing, standingK (by omega) (by omega)]
  simp [mbk]
/-! #### it comes to rest -/
def Rest (zs ss : List Int) : Prop := ∀ k : Int, 0 ≤ k → k < zs.length → reachV ⟨ss, zs, true⟩ k = sAt ss k
def rsB (zs : List Int) (look : Int) (s : Int × List Int) : M (Out (Int × List Int) (Int × List Int) (List Int)) :=
  mb (modM look (zs.length : Int)) fun place => mb (k__law_reach true zs s.2 place) fun reach => mb (mb (ixM s.2 place) fun v => (.ok (!decide (reach = v)))) fun v => (fun j : Int => mb (setM s.2 place reach) fun now => if (decide (j = (zs.length : Int))) = true then .ok (.rt now)
    else .ok (.nx (j, now))) (if v = true then 0 else (s.1 + 1))
structure RI (zs : List Int) (p a : Int) (s : Int × List Int) : Prop where
  tall : Tall zs s.2 p
  i0 : 0 ≤ s.1
  ia : s.1 ≤ a
  ilt : s.1 < zs.length
  rest : ∀ j : Int, a - s.1 ≤ j → j < a → reachV ⟨s.2, zs, true⟩ (j % zs.length) = sAt s.2 (j % zs.length)
theorem all_rest {n a : Int} {P : Int → Prop} (h0 : 0 < n) (h : ∀ j : Int, a - n ≤ j → j < a → P (j % n)) : ∀ k : Int, 0 ≤ k → k < n → P k := fun k h1 h2 => by
  have q := h (a - n + (k - (a - n)) % n) (by have := Int.emod_nonneg (k - (a - n)) (show n ≠ 0 by omega); omega) (by have := Int.emod_lt_of_pos (k - (a - n)) h0; omega)
  have e : (a - n + (k - (a - n)) % n) % n = k := by
    have : (a - n + (k - (a - n)) % n) = k + n * (-((k - (a - n)) / n)) := by
      have := Int.mul_ediv_add_emod (k - (a - n)) n
      rw [Int.mul_neg]
      omega
    rw [this, Int.add_mul_emod_self_left, Int.emod_eq_of_lt h1 h2]
  rw [e] at q
  exact q
theorem rsStep {zs : List Int} {p a : Int} {s : Int × List Int} (h0 : 0 ≤ a) (i : RI zs p a s) : ∃ now, Tall zs now p ∧ ((rsB zs a s = .ok (.rt now) ∧ Rest zs now) ∨ ∃ j, rsB zs a s = .ok (.nx (j, now)) ∧ RI zs p (a + 1) (j, now)) := by
  have t := i.tall
  have hl := t.len
  have hn : 0 < s.2.length := t.good.ne
  have hb : s.2.length ≤ 90000 := t.good.big
  have m0 := Int.emod_nonneg a (show (zs.length : Int) ≠ 0 by omega)
  have m1 := Int.emod_lt_of_pos a (show (0 : Int) < (zs.length : Int) by omega)
  have e0 : modM a (zs.length : Int) = .ok (a % zs.length) := modK (by omega)
  have e1 : k__law_reach true zs s.2 (a % zs.length) = .ok (reachV ⟨s.2, zs, true⟩ (a % zs.length)) := lawReachK hl.symm (by omega) m0 (by omega)
  have w := wkV_set (b := ⟨s.2, zs, true⟩) (qs := []) m0 (show a % zs.length < (s.2.length : Int) by omega)
  rw [wkV_nil] at w
  have e2 : setM s.2 (a % zs.length) (reachV ⟨s.2, zs, true⟩ (a % zs.length)) = .ok (wkV ⟨s.2, zs, true⟩ [a % zs.length]) := by
    rw [setG m0 (by omega)]
    exact congrArg _ w
  have e3 : ixM s.2 (a % zs.length) = .ok (sAt s.2 (a % zs.length)) := ixS m0 (by omega)
  have t2 : Tall zs (wkV ⟨s.2, zs, true⟩ [a % zs.length]) p := t.wk
  refine ⟨wkV ⟨s.2, zs, true⟩ [a % zs.length], t2, ?_⟩
  have st : rsB zs a s = if (decide ((if (!decide (reachV ⟨s.2, zs, true⟩ (a % zs.length) = sAt s.2 (a % zs.length))) = true then 0 else s.1 + 1) = (zs.length : Int))) = true then .ok (.rt (wkV ⟨s.2, zs, true⟩ [a % zs.length])) else .ok (.nx (if (!decide (reachV ⟨s.2, zs, true⟩ (a % zs.length) = sAt s.2 (a % zs.length))) = true then 0 else s.1 + 1, wkV ⟨s.2, zs, true⟩ [a % zs.length])) := by
    unfold rsB
    simp only [e0, e1, e3, e2, mbk]
  rw [st]
  by_cases c : reachV ⟨s.2, zs, true⟩ (a % zs.length) = sAt s.2 (a % zs.length)
  · have same : wkV ⟨s.2, zs, true⟩ [a % zs.length] = s.2 := by
      rw [wkV_same m0 (show a % zs.length < (s.2.length : Int) by omega) c, wkV_nil]
    rw [same]
    simp only [c, decide_true, Bool.not_true, Bool.false_eq_true, if_false]
    have r2 : ∀ j : Int, a - s.1 ≤ j → j < a + 1 → reachV ⟨s.2, zs, true⟩ (j % zs.length) = sAt s.2 (j % zs.length) := fun j h1 h2 => by
      by_cases cj : j = a
      · subst cj; exact c
      · exact i.rest j h1 (by omega)
    have i0 := i.i0
    have ia := i.ia
    have il := i.ilt
    by_cases d : s.1 + 1 = (zs.length : Int)
    · rw [if_pos (decide_eq_true d)]
      refine .inl ⟨rfl, ?_⟩
      exact all_rest (n := zs.length) (a := a + 1) (P := fun k => reachV ⟨s.2, zs, true⟩ k = sAt s.2 k) (by omega) fun j h1 h2 => r2 j (by omega) h2
    · rw [if_neg (by simp only [decide_eq_true_eq]; exact d)]
      exact .inr ⟨_, rfl, t, by show 0 ≤ s.1 + 1; omega, by show s.1 + 1 ≤ a + 1; omega, by show s.1 + 1 < _; omega, fun j h1 h2 => r2 j (by simp only at h1; omega) h2⟩
  · simp only [c, decide_false, Bool.not_false, if_true]
    rw [if_neg (by simp only [decide_eq_true_eq]; omega)]
    exact .inr ⟨_, rfl, t2, Int.le_refl _, by show (0 : Int) ≤ a + 1; omega, by show (0 : Int) < _; omega, fun j h1 h2 => by simp only at h1; omega⟩
theorem rsLoop {δ : Type} {zs : List Int} {p : Int} : ∀ (m : Nat) (a : Int) (s : Int × List Int), a + m = 400 → 0 ≤ a → RI zs p a s → (∃ t, (forM (rsB zs) (rng a 400) s : M (Out (Int × List Int) δ (List Int))) = .ok (.nx t)) ∨ ∃ e, (forM (rsB zs) (rng a 400) s : M (Out (Int × List Int) δ (List Int))) = .ok (.rt e) ∧ Tall zs e p ∧ Rest zs e
  | 0, a, s, h, _, _ => .inl ⟨s, by rw [rng_nil (by omega)]; rfl⟩
  | m + 1, a, s, h, h0, i => by
    rw [rng_cons (by omega)]
    obtain ⟨now, t, c⟩ := rsStep h0 i
    unfold forM
    rcases c with ⟨e, r⟩ | ⟨j, e, i2⟩
    · rw [e]
      exact .inr ⟨now, rfl, t, r⟩
    · rw [e]
      exact rsLoop m (a + 1) (j, now) (by omega) (by omega) i2
theorem restedK {zs ss : List Int} {p : Int} (t : Tall zs ss p) : f__law_rested zs ss = .ok [] ∨ ∃ e, f__law_rested zs ss = .ok e ∧ Tall zs e p ∧ Rest zs e := by
  have hn : 0 < ss.length := t.good.ne
  have hl := t.len
  unfold f__law_rested c__law_rested
  rw [rngK (by decide) (by decide) (by decide) (by decide), mbk, q_reach]
  have key := rsLoop (δ := Empty) 400 0 (0, ss) (by decide) (by decide) (⟨t, Int.le_refl _, Int.le_refl _, by show (0 : Int) < _; omega, fun j h1 h2 => by simp only at h1; omega⟩ : RI zs p 0 (0, ss))
  unfold rsB at key
  rcases key with ⟨s, e⟩ | ⟨e, h, h2⟩
  · rw [e]
    exact .inl rfl
  · rw [h]
    exact .inr ⟨e, rfl, h2⟩
theorem resting {zs ss : List Int} {p : Int} (t : Tall zs ss p) (r : Rest zs ss) : f_resting_cut ⟨ss, zs, true⟩ = .ok [p] := by
  have hl := t.len
  unfold f_resting_cut c_resting_cut
  have e : restV ⟨ss, zs, true⟩ = [] := List.filter_eq_nil_iff.mpr fun k hk => by
    have := mem_rng.mp hk
    simp only at this
    simp [r k this.1 (by omega)]
  rw [show f_check_ring ⟨ss, zs, true⟩ = .ok () from rfl, mbk, q_rest, restK t.good, e, mbk, if_neg (by simp), q_leaders, leadersK t.good, mbk]
  have f : leadV true ss = [p] := by
    unfold leadV
    refine filter_one t.at0 t.at1 ?_ fun k h1 h2 ne => ?_
    · have : lordV true ss p = none := (lord_none t.at0 t.at1).mpr fun k h1 h2 => by
        rw [t.top]
        by_cases c : k = p
        · subst c; exact Int.le_of_eq t.top
        · exact Int.le_of_lt (t.low k h1 h2 c)
      rw [this]
      rfl
    · cases c : lordV true ss k with
      | some j => rfl
      | none =>
        have := (lord_none h1 h2).mp c p t.at0 t.at1
        rw [t.top] at this
        have := t.low k h1 h2 ne
        omega
  show fnV .no (.ok (.rt (leadV true ss))) = _
  rw [f]
  rfl
/-! #### the orders -/
def InR (n : Int) (hs : List (List Int)) : Prop := ∀ h ∈ hs, ∀ p ∈ h, 0 ≤ p ∧ p < n
theorem mapC_all {α β : Type} {f : α → M β} {P : β → Prop} : ∀ {xs : List α}, xs.length ≤ 1000000 → (∀ x ∈ xs, ∃ y, f x = .ok y ∧ P y) → ∃ ys, mapC f xs = .ok ys ∧ ys.length = xs.length ∧ ∀ y ∈ ys, P y := fun {xs} hl h => by
  unfold mapC
  rw [if_pos (lineK hl)]
  clear hl
  induction xs with
  | nil => exact ⟨[], rfl, rfl, fun y hy => by cases hy⟩
  | cons x xs ih =>
    obtain ⟨y, e, py⟩ := h x List.mem_cons_self
    obtain ⟨ys, e2, l, hp⟩ := ih fun z hz => h z (List.mem_cons_of_mem _ hz)
    refine ⟨y :: ys, ?_, by rw [List.length_cons, List.length_cons, l], fun z hz => ?_⟩
    · unfold mapL
      rw [e]
      show mb (mapL f xs) (fun ys => .ok (y :: ys)) = _
      rw [e2, mbk]
    · rcases List.mem_cons.mp hz with rfl | hz
      · exact py
      · exact hp z hz
theorem sortK {xs : List Int} (h : xs.length < 64) : sortSet xs = .ok (usort xs) := by unfold sortSet; rw [if_pos h]
theorem handfulsK (c : Int) {n m : Int} (hn : 1 ≤ n ∧ n ≤ 16) (hm : 1 ≤ m ∧ m ≤ 16) : ∃ hs, f__law_handfuls c n m = .ok hs ∧ InR n hs := by
  unfold f__law_handfuls c__law_handfuls
  rw [mulL (by decide), mbk, rep1 (by omega) (by omega), mbk, q_draws]
  obtain ⟨ds, e, dr⟩ := drawsK c (sizes := List.replicate (20 * m).toNat n) (by rw [List.length_replicate]; omega) (fun s hs => by
    rw [(List.mem_replicate.mp hs).2]
    omega)
  rw [e, mbk, rngK (by decide) (by decide) (by decide) (by decide), mbk]
  obtain ⟨hs, e2, _, h2⟩ := mapC_all (f := fun k => mb (mb (mb (mulM m k) fun v => (.ok (some v))) fun v => mb (mb (mb (mulM m k) fun v => (.ok (v + m))) fun v => (.ok (some v))) fun w => (.ok (cut ds v w))) fun v => sortSet v) (P := fun h => ∀ p ∈ h, 0 ≤ p ∧ p < n) (xs := rng 0 20) (by rw [rng_len]; decide) fun k hk => by
    have b := mem_rng.mp hk
    have e1 : mulM m k = .ok (m * k) := mulL (by omega)
    simp only [e1, mbk]
    have mk0 : 0 ≤ m * k := Int.mul_nonneg (by omega) b.1
    have cl : (cut ds (some (m * k)) (some (m * k + m))).length < 64 := by
      unfold cut
      rw [List.length_take]
      obtain ⟨a, ha⟩ := Int.eq_ofNat_of_zero_le mk0
      obtain ⟨w, hw⟩ := Int.eq_ofNat_of_zero_le (show 0 ≤ m by omega)
      rw [ha, hw, show ((a : Int) + (w : Int)) = ((a + w : Nat) : Int) by omega]
      rw [HT.sIx_nat ds.length 0 a, HT.sIx_nat ds.length ds.length (a + w)]
      omega
    rw [sortK cl]
    refine ⟨_, rfl, fun p hp => ?_⟩
    have hp := mem_usort.mp hp
    unfold cut at hp
    have hp := List.mem_of_mem_drop (List.mem_of_mem_take hp)
    obtain ⟨s, hs, h3⟩ := dr.mem hp
    rw [(List.mem_replicate.mp hs).2] at h3
    exact h3
  rw [e2]
  exact ⟨hs, rfl, h2⟩
def orB (zs ds : List Int) (many : Int) (step : Int) (s : List Int × List (List Int)) : M (Out (List Int × List (List Int)) (List Int × List (List Int)) (List (List Int))) :=
  mb (k__law_restless true zs s.1) fun rl =>
    if (decide (rl = ([] : List Int))) = true then .ok (.bk (s.1, s.2))
    else mb (mb (rngM 0 many) fun v => mapC (fun k => mb (mb (mb (mb (mulM step many) fun v => (.ok (v + k))) fun v => ixM ds v) fun v => modM v (rl.length : Int)) fun v => ixM rl v) v) fun picks =>
    mb (sortSet picks) fun v => mb (app s.2 v) fun order =>
    mb (mb (ixM order (-1)) fun v => k__law_woken true zs s.1 v) fun now =>
    .ok (.nx (now, order))
theorem forM_bk {α γ δ ρ : Type} {f : α → γ → M (Out γ γ ρ)} {x : α} {xs : List α} {s t : γ} (h : f x s = .ok (.bk t)) : (forM f (x :: xs) s : M (Out γ δ ρ)) = .ok (.nx t) := by
  rw [forM]
  simp only [h]
theorem forM_inv {α γ δ ρ : Type} {f : α → γ → M (Out γ γ ρ)} {I : Nat → γ → Prop} (N : Nat) : ∀ (xs : List α) (s : γ) (i : Nat), i + xs.length ≤ N → I i s → (∀ (i : Nat) (x : α) (s : γ), i < N → x ∈ xs → I i s → f x s = .ok (.bk s) ∨ ∃ t, f x s = .ok (.nx t) ∧ I (i + 1) t) → ∃ t j, (forM f xs s : M (Out γ δ ρ)) = .ok (.nx t) ∧ I j t
  | [], s, i, _, h, _ => ⟨s, i, rfl, h⟩
  | x :: xs, s, i, hN, h, st => by
    rw [List.length_cons] at hN
    rcases st i x s (by omega) List.mem_cons_self h with e | ⟨t, e, h2⟩
    · exact ⟨s, i, forM_bk e, h⟩
    · rw [forM_nx e]
      exact forM_inv N xs t (i + 1) (by omega) h2 fun i y s hi hy => st i y s hi (List.mem_cons_of_mem _ hy)
structure OI (zs : List Int) (n i : Nat) (s : List Int × List (List Int)) : Prop where
  good : Good ⟨s.1, zs, true⟩
  len : s.1.length = n
  rg : InR zs.length s.2
  cnt : s.2.length ≤ i
theorem orStep {zs ds : List Int} {m step : Int} {n i : Nat} {s : List Int × List (List Int)} (hm : 1 ≤ m ∧ m ≤ 16) (dl : ds.length = (60 * m).toNat) (hz : zs.length = n) (hn : n ≤ 16) (hi : i < 60) (hs : 0 ≤ step ∧ step < 60) (inv : OI zs n i s) : orB zs ds m step s = .ok (.bk s) ∨ ∃ t, orB zs ds m step s = .ok (.nx t) ∧ OI zs n (i + 1) t := by
  have g2 := inv.good
  have l2 := inv.len
  have r2 := inv.rg
  have i2 := inv.cnt
  have hb : s.1.length ≤ 16 := by omega
  unfold orB
  rw [lawRestK g2, mbk]
  by_cases q : restV ⟨s.1, zs, true⟩ = []
  · rw [if_pos (decide_eq_true q)]
    exact .inl rfl
  · rw [if_neg (by simp only [decide_eq_true_eq]; exact q), rngK (by decide) (by decide) (by omega) (by omega), mbk]
    have rl : (restV ⟨s.1, zs, true⟩).length ≤ s.1.length := rest_len
    have rp : 0 < (restV ⟨s.1, zs, true⟩).length := List.length_pos_iff.mpr q
    obtain ⟨picks, e2, pl, pp⟩ := mapC_all (f := fun k => mb (mb (mb (mb (mulM step m) fun v => (.ok (v + k))) fun v => ixM ds v) fun v => modM v ((restV ⟨s.1, zs, true⟩).length : Int)) fun v => ixM (restV ⟨s.1, zs, true⟩) v) (P := fun p => 0 ≤ p ∧ p < (zs.length : Int)) (xs := rng 0 m) (by rw [rng_len]; omega) fun k hk => by
      have kb := mem_rng.mp hk
      have sm : 0 ≤ step * m := Int.mul_nonneg (by omega) (by omega)
      have sm2 : step * m ≤ 59 * m := Int.mul_le_mul_of_nonneg_right (by omega) (by omega)
      rw [mulL (by omega), mbk, mbk, ixS (by omega) (by rw [dl]; omega), mbk, modK (by omega), mbk]
      have v0 := Int.emod_nonneg (sAt ds (step * m + k)) (show ((restV ⟨s.1, zs, true⟩).length : Int) ≠ 0 by omega)
      have v1 := Int.emod_lt_of_pos (sAt ds (step * m + k)) (show (0 : Int) < ((restV ⟨s.1, zs, true⟩).length : Int) by omega)
      rw [ixS v0 v1]
      refine ⟨_, rfl, ?_⟩
      have := sAt_mem v0 v1
      have := mem_rng.mp (List.mem_filter.mp this).1
      simp only at this
      omega
    rw [e2, mbk, sortK (by rw [pl, rng_len]; omega), mbk, appK (by omega), mbk, ixLast, mbk]
    have ur : ∀ p ∈ usort picks, 0 ≤ p ∧ p < (s.1.length : Int) := fun p hp => by
      have := pp p (mem_usort.mp hp)
      omega
    rw [wokenK g2 ur, mbk]
    refine .inr ⟨_, rfl, good_wk g2, (wkV_len _ _).trans l2, fun h hh => ?_, by show (s.2 ++ [usort picks]).length ≤ i + 1; rw [List.length_append, List.length_singleton]; omega⟩
    rcases List.mem_append.mp hh with z | z
    · exact r2 h z
    · rw [List.mem_singleton.mp z]
      exact fun p hp => pp p (mem_usort.mp hp)
theorem orderK (c : Int) {zs ss : List Int} {m : Int} (g : Good ⟨ss, zs, true⟩) (hn : ss.length ≤ 16) (hm : 1 ≤ m ∧ m ≤ 16) : ∃ hs, f__law_order c true zs ss m = .ok hs ∧ InR zs.length hs := by
  have hz : zs.length = ss.length := g.len
  unfold f__law_order c__law_order
  rw [mulL (by decide), mbk, rep1 (by omega) (by omega), mbk, q_draws, q_lrest, q_woken]
  obtain ⟨ds, e, dr⟩ := drawsK c (sizes := List.replicate (60 * m).toNat 5040) (by rw [List.length_replicate]; omega) (fun s hs => by
    rw [(List.mem_replicate.mp hs).2]
    omega)
  have dl : ds.length = (60 * m).toNat := by rw [dr.1, List.length_replicate]
  rw [e, mbk, rngK (by decide) (by decide) (by decide) (by decide), mbk]
  have key := forM_inv (δ := Empty) (f := orB zs ds m) (I := OI zs ss.length) 60 (rng 0 60) (ss, ([] : List (List Int))) 0 (by rw [rng_len]; decide) ⟨g, rfl, fun h hh => by simp at hh, Nat.le_refl _⟩ fun i x s hi hx inv => orStep hm dl hz hn hi (mem_rng.mp hx) inv
  unfold orB at key
  obtain ⟨s, j, e3, h3⟩ := key
  rw [e3, sqk]
  exact ⟨s.2, rfl, h3.rg⟩
theorem keptLoop {δ : Type} {zs : List Int} {p : Int} : ∀ (hs : List (List Int)) (ss : List Int), Tall zs ss p → InR zs.length hs → ∃ s, (forM (fun (h : List Int) (s : List Int) => mb (k__law_woken true zs s h) fun now => mb (mb (mb (k_Beads___init__ now zs true) fun v => f__law_alone v zs now p) fun v => (.ok (!v))) fun v => if v = true then .ok (.rt false)
    else (.ok (.nx now) : M (Out (List Int) (List Int) Bool))) hs ss : M (Out (List Int) δ Bool)) = .ok (.nx s) ∧ Tall zs s p
  | [], ss, t, _ => ⟨ss, rfl, t⟩
  | h :: hs, ss, t, r => by
    have hl := t.len
    have t2 : Tall zs (wkV ⟨ss, zs, true⟩ h) p := t.wk
    obtain ⟨s, e, ts⟩ := keptLoop (δ := δ) hs _ t2 fun x hx => r x (List.mem_cons_of_mem _ hx)
    refine ⟨s, ?_, ts⟩
    unfold forM
    rw [wokenK t.good (fun q hq => by have := r h List.mem_cons_self q hq; omega), mbk, initK t2.good, mbk, aloneK t2, mbk, mbk]
    exact e
theorem keptK {zs ss : List Int} {p : Int} {hs : List (List Int)} (t : Tall zs ss p) (h : InR zs.length hs) : f__law_kept zs ss hs p = .ok true := by
  unfold f__law_kept c__law_kept
  obtain ⟨s, e, ts⟩ := keptLoop (δ := Empty) hs ss t h
  rw [q_woken, q_init, e, sqk]
  rcases restedK ts with e2 | ⟨w, e2, tw, rw_⟩
  · rw [e2, mbk]
    rfl
  · have hb : w.length ≤ 90000 := tw.good.big
    have hn : 0 < w.length := tw.good.ne
    rw [e2, mbk, if_neg (by simp only [decide_eq_true_eq]; intro z; rw [z] at hn; exact absurd hn (by decide)), initK tw.good, mbk, resting tw rw_, mbk, q_num, numbersTK true (by simp)]
    simp only [mbk, decide_true, Bool.and_self, if_true]
    rw [aloneK tw, mbk]
    rfl
theorem ixEnd {ps : List Int} (ne : ps ≠ []) : ixM ps (-1) = .ok (ps.getLast ne) := by
  have e := List.dropLast_concat_getLast ne
  have := ixLast (xs := ps.dropLast) (ps.getLast ne)
  rw [e] at this
  exact this
theorem law_true : ∀ ns : List Int, ns.length ≤ 63 → f_law ns = .ok true := by
  intro ns _
  unfold f_law c_law
  rw [q_cell, q_draws, q_lengths, q_standing, q_once1]
  obtain ⟨c0, e0⟩ := cellK ns (k := 0) (by decide)
  obtain ⟨c1, e1⟩ := cellK ns (k := 1) (by decide)
  obtain ⟨c2, e2⟩ := cellK ns (k := 2) (by decide)
  obtain ⟨c3, e3⟩ := cellK ns (k := 3) (by decide)
  rw [e0, e1, e2, e3]
  simp only [mbk]
  obtain ⟨hd, es, dr⟩ := drawsK c0 (sizes := [8, 7, 9, 3, 2]) (by decide) (by decide)
  rw [es]
  obtain ⟨d0, x0, _, l0, u0⟩ := dr.at 0 rfl
  obtain ⟨d1, x1, _, l1, u1⟩ := dr.at 1 rfl
  obtain ⟨d2, x2, _, l2, u2⟩ := dr.at 2 rfl
  obtain ⟨d3, x3, _, l3, u3⟩ := dr.at 3 rfl
  obtain ⟨d4, x4, _, l4, u4⟩ := dr.at 4 rfl
  have y0 : ixM hd 0 = .ok d0 := x0
  have y1 : ixM hd 1 = .ok d1 := x1
  have y2 : ixM hd 2 = .ok d2 := x2
  have y3 : ixM hd 3 = .ok d3 := x3
  have y4 : ixM hd 4 = .ok d4 := x4
  simp only [mbk, y0, y1, y2, y3, y4]
  have s1 : (if (decide (d0 = 3)) = true then .ok (.nx (10 + d1)) else .ok (.nx (1 + d2)) : M (Out Int Empty Bool)) = .ok (.nx (if d0 = 3 then 10 + d1 else 1 + d2)) := by
    by_cases h : d0 = 3 <;> simp [h]
  rw [s1, sqk]
  generalize hn1 : (if d0 = 3 then 10 + d1 else 1 + d2) = n1
  have b1 : 1 ≤ n1 ∧ n1 ≤ 16 := by
    rw [← hn1]; split <;> omega
  obtain ⟨n, rfl⟩ := Int.eq_ofNat_of_zero_le (show 0 ≤ n1 by omega)
  obtain ⟨zs, ez, zl, zb⟩ := lengthsK c1 (many := (n : Int)) (by omega) (by omega)
  rw [ez, mbk]
  have hz : Sizes zs := ⟨by omega, by omega, zb⟩
  have zn : zs.length = n := by omega
  obtain ⟨ps, ep, pl, pb, pn, pp⟩ := shuffledK (c2 + 11) (n := n) (by omega)
  rw [ep, mbk]
  have pb' : ∀ p ∈ ps, 0 ≤ p ∧ p < (zs.length : Int) := by rw [zn]; exact pb
  have ne : ps ≠ [] := List.length_pos_iff.mp (by omega)
  have t : Tall zs (endV true zs ps) (ps.getLast ne) := end_tall hz pb' pn (fun k h1 h2 => pp.mem_iff.mpr (mem_rng.mpr ⟨h1, by omega⟩)) ne
  have tl := t.len
  rw [leftK hz pb', mbk, onceK hz pb' pn (by omega), mbk]
  rw [standingK (by omega) (by omega)]
  simp only [decide_true, mbk, Bool.not_true, Bool.or_self, Bool.false_eq_true, if_false]
  rw [totalK, mbk, greatK t, mbk, mbk]
  dsimp only
  rw [q_numL, numbersK false (by simp)]
  simp only [decide_true, mbk, Bool.not_false, Bool.and_self, Bool.not_true, Bool.false_eq_true, if_false]
  rw [ixEnd ne]
  simp only [mbk]
  rw [aloneK t]
  simp only [mbk, Bool.not_true, Bool.false_eq_true, if_false]
  obtain ⟨m, em, hm⟩ : ∃ m, ixM [1, 2, (n : Int)] d3 = .ok m ∧ 1 ≤ m ∧ m ≤ 16 := by
    obtain ⟨x, hx, e⟩ := ixK (xs := [1, 2, (n : Int)]) l3 (by simpa using u3)
    refine ⟨x, e, ?_⟩
    have := List.mem_of_getElem? hx
    simp only [List.mem_cons, List.not_mem_nil, or_false] at this
    omega
  rw [em, mbk]
  obtain ⟨h1, k1, r1⟩ := handfulsK c3 (n := (n : Int)) (m := m) (by omega) hm
  obtain ⟨h2, k2, r2⟩ := orderK c3 (m := m) t.good (by omega) hm
  rw [k1, k2]
  simp only [mbk]
  have s2 : (if (decide (d4 = 0) || decide (9 < (n : Int))) = true then .ok (.nx h1) else .ok (.nx h2) : M (Out (List (List Int)) Empty Bool)) = .ok (.nx (if (decide (d4 = 0) || decide (9 < (n : Int))) = true then h1 else h2)) := by
    split <;> rfl
  rw [s2, sqk]
  generalize hh : (if (decide (d4 = 0) || decide (9 < (n : Int))) = true then h1 else h2) = hs
  have hr : InR zs.length hs := by
    rw [← hh]
    split
    · rw [zn]; exact r1
    · exact r2
  rw [keptK t hr]
  simp only [mbk, Bool.not_true, Bool.false_eq_true, if_false]
  rw [standingK (by omega) (by omega)]
  simp [mbk]

/-! ### the top, the head -/
theorem all_mk {l : PySem.W.OpenLaw} {w : World} {K : PySem.W.Frag} {h : Heap} {mg : Str → Option Value} {fa0 : Addr} (X : K.In h) (G : h.Ns mainGlobals mg) (hfa : mg "law" = some (.ref fa0))
    {c_BadOrder : Addr}
    {c_Beads : Addr}
    {c_BadBeads : Addr}
    {c_BadPlace : Addr}
    {c_WrongKind : Addr}
    {c_NotTall : Addr}
    {c_NotAtRest : Addr}
    {f0 : Addr} {od0 an0 : Option Addr} {sl0 : Array (Option Value)} {oc0 kV0 dc0 pm0 cd0 ct0 : Value}
    {f1 : Addr} {od1 an1 : Option Addr} {sl1 : Array (Option Value)} {oc1 kV1 dc1 pm1 cd1 ct1 : Value}
    {f2 : Addr} {od2 an2 : Option Addr} {sl2 : Array (Option Value)} {oc2 kV2 dc2 pm2 cd2 ct2 : Value}
    {f3 : Addr} {od3 an3 : Option Addr} {sl3 : Array (Option Value)} {oc3 kV3 dc3 pm3 cd3 ct3 : Value}
    {f4 : Addr} {od4 an4 : Option Addr} {sl4 : Array (Option Value)} {oc4 kV4 dc4 pm4 cd4 ct4 : Value}
    {f5 : Addr} {od5 an5 : Option Addr} {sl5 : Array (Option Value)} {oc5 kV5 dc5 pm5 cd5 ct5 : Value}
    {f6 : Addr} {od6 an6 : Option Addr} {sl6 : Array (Option Value)} {oc6 kV6 dc6 pm6 cd6 ct6 : Value}
    {f7 : Addr} {od7 an7 : Option Addr} {sl7 : Array (Option Value)} {oc7 dc7 pm7 cd7 ct7 : Value}
    {f8 : Addr} {od8 an8 : Option Addr} {sl8 : Array (Option Value)} {oc8 kV8 dc8 pm8 cd8 ct8 : Value}
    {f9 : Addr} {od9 an9 : Option Addr} {sl9 : Array (Option Value)} {oc9 kV9 dc9 pm9 cd9 ct9 : Value}
    {f10 : Addr} {od10 an10 : Option Addr} {sl10 : Array (Option Value)} {oc10 kV10 dc10 pm10 cd10 ct10 : Value}
    {f11 : Addr} {od11 an11 : Option Addr} {sl11 : Array (Option Value)} {oc11 kV11 dc11 pm11 cd11 ct11 : Value}
    {f12 : Addr} {od12 an12 : Option Addr} {sl12 : Array (Option Value)} {oc12 kV12 dc12 pm12 cd12 ct12 : Value}
    {f13 : Addr} {od13 an13 : Option Addr} {sl13 : Array (Option Value)} {oc13 kV13 dc13 pm13 cd13 ct13 : Value}
    {f14 : Addr} {od14 an14 : Option Addr} {sl14 : Array (Option Value)} {oc14 kV14 dc14 pm14 cd14 ct14 : Value}
    {f15 : Addr} {od15 an15 : Option Addr} {sl15 : Array (Option Value)} {oc15 kV15 dc15 pm15 cd15 ct15 : Value}
    {f16 : Addr} {od16 an16 : Option Addr} {sl16 : Array (Option Value)} {oc16 kV16 dc16 pm16 cd16 ct16 : Value}
    {f17 : Addr} {od17 an17 : Option Addr} {sl17 : Array (Option Value)} {oc17 dc17 pm17 cd17 ct17 : Value}
    {f18 : Addr} {od18 an18 : Option Addr} {sl18 : Array (Option Value)} {oc18 kV18 dc18 pm18 cd18 ct18 : Value}
    {f19 : Addr} {od19 an19 : Option Addr} {sl19 : Array (Option Value)} {oc19 kV19 dc19 pm19 cd19 ct19 : Value}
    {f20 : Addr} {od20 an20 : Option Addr} {sl20 : Array (Option Value)} {oc20 kV20 dc20 pm20 cd20 ct20 : Value}
    {f21 : Addr} {od21 an21 : Option Addr} {sl21 : Array (Option Value)} {oc21 kV21 dc21 pm21 cd21 ct21 : Value}
    {f22 : Addr} {od22 an22 : Option Addr} {sl22 : Array (Option Value)} {oc22 kV22 dc22 pm22 cd22 ct22 : Value}
    {f23 : Addr} {od23 an23 : Option Addr} {sl23 : Array (Option Value)} {oc23 kV23 dc23 pm23 cd23 ct23 : Value}
    {f24 : Addr} {od24 an24 : Option Addr} {sl24 : Array (Option Value)} {oc24 kV24 dc24 pm24 cd24 ct24 : Value}
    {f25 : Addr} {od25 an25 : Option Addr} {sl25 : Array (Option Value)} {oc25 kV25 dc25 pm25 cd25 ct25 : Value}
    {f26 : Addr} {od26 an26 : Option Addr} {sl26 : Array (Option Value)} {oc26 kV26 dc26 pm26 cd26 ct26 : Value}
    {f27 : Addr} {od27 an27 : Option Addr} {sl27 : Array (Option Value)} {oc27 kV27 dc27 pm27 cd27 ct27 : Value}
    {f28 : Addr} {od28 an28 : Option Addr} {sl28 : Array (Option Value)} {oc28 kV28 dc28 pm28 cd28 ct28 : Value}
    {f29 : Addr} {od29 an29 : Option Addr} {sl29 : Array (Option Value)} {oc29 kV29 dc29 pm29 cd29 ct29 : Value}
    {f30 : Addr} {od30 an30 : Option Addr} {sl30 : Array (Option Value)} {oc30 kV30 dc30 pm30 cd30 ct30 : Value}
    {f31 : Addr} {od31 an31 : Option Addr} {sl31 : Array (Option Value)} {oc31 kV31 dc31 pm31 cd31 ct31 : Value}
    {f32 : Addr} {od32 an32 : Option Addr} {sl32 : Array (Option Value)} {oc32 kV32 dc32 pm32 cd32 ct32 : Value}
    {f33 : Addr} {od33 an33 : Option Addr} {sl33 : Array (Option Value)} {oc33 kV33 dc33 pm33 cd33 ct33 : Value}
    {f34 : Addr} {od34 an34 : Option Addr} {sl34 : Array (Option Value)} {oc34 kV34 dc34 pm34 cd34 ct34 : Value}
    {f35 : Addr} {od35 an35 : Option Addr} {sl35 : Array (Option Value)} {oc35 kV35 dc35 pm35 cd35 ct35 : Value}
    {f36 : Addr} {od36 an36 : Option Addr} {sl36 : Array (Option Value)} {oc36 kV36 dc36 pm36 cd36 ct36 : Value}
    {f37 : Addr} {od37 an37 : Option Addr} {sl37 : Array (Option Value)} {oc37 kV37 dc37 pm37 cd37 ct37 : Value}
    {f38 : Addr} {od38 an38 : Option Addr} {sl38 : Array (Option Value)} {oc38 kV38 dc38 pm38 cd38 ct38 : Value}
    {f39 : Addr} {od39 an39 : Option Addr} {sl39 : Array (Option Value)} {oc39 kV39 dc39 pm39 cd39 ct39 : Value}
    {f40 : Addr} {od40 an40 : Option Addr} {sl40 : Array (Option Value)} {oc40 kV40 dc40 pm40 cd40 ct40 : Value}
    {f41 : Addr} {od41 an41 : Option Addr} {sl41 : Array (Option Value)} {oc41 kV41 dc41 pm41 cd41 ct41 : Value}
    {f42 : Addr} {od42 an42 : Option Addr} {sl42 : Array (Option Value)} {oc42 kV42 dc42 pm42 cd42 ct42 : Value}
    {f43 : Addr} {od43 an43 : Option Addr} {sl43 : Array (Option Value)} {oc43 kV43 dc43 pm43 cd43 ct43 : Value}
    {f44 : Addr} {od44 an44 : Option Addr} {sl44 : Array (Option Value)} {oc44 kV44 dc44 pm44 cd44 ct44 : Value}
    {f45 : Addr} {od45 an45 : Option Addr} {sl45 : Array (Option Value)} {oc45 kV45 dc45 pm45 cd45 ct45 : Value}
    {f46 : Addr} {od46 an46 : Option Addr} {sl46 : Array (Option Value)} {oc46 kV46 dc46 pm46 cd46 ct46 : Value}
    {f47 : Addr} {od47 an47 : Option Addr} {sl47 : Array (Option Value)} {oc47 kV47 dc47 pm47 cd47 ct47 : Value}
    {f48 : Addr} {od48 an48 : Option Addr} {sl48 : Array (Option Value)} {oc48 kV48 dc48 pm48 cd48 ct48 : Value}
    {f49 : Addr} {od49 an49 : Option Addr} {sl49 : Array (Option Value)} {oc49 kV49 dc49 pm49 cd49 ct49 : Value}
    {f50 : Addr} {od50 an50 : Option Addr} {sl50 : Array (Option Value)} {oc50 kV50 dc50 pm50 cd50 ct50 : Value}
    {T7 : Addr}
    {D7 : Addr}
    {oT7 : Value} {dT7 : Option Addr} {nT7 : Nat} {sT7 : Array (Option Value)}
    {D17 : Addr}
    {nm_BadOrder q_BadOrder : Str} {N_BadOrder : Addr} {bs_BadOrder bm_BadOrder : List Value} {sn_BadOrder : List Str} {sub_BadOrder : List Value} {ab_BadOrder : Bool} {col_BadOrder : Option Bool} {dd_BadOrder : Option Addr} {m0_BadOrder m1_BadOrder m2_BadOrder m3_BadOrder m5_BadOrder : Option Value}
    {nm_BadBeads q_BadBeads : Str} {N_BadBeads : Addr} {bs_BadBeads bm_BadBeads : List Value} {sn_BadBeads : List Str} {sub_BadBeads : List Value} {ab_BadBeads : Bool} {col_BadBeads : Option Bool} {dd_BadBeads : Option Addr} {m0_BadBeads m1_BadBeads m2_BadBeads m3_BadBeads m5_BadBeads : Option Value}
    {nm_BadPlace q_BadPlace : Str} {N_BadPlace : Addr} {bs_BadPlace bm_BadPlace : List Value} {sn_BadPlace : List Str} {sub_BadPlace : List Value} {ab_BadPlace : Bool} {col_BadPlace : Option Bool} {dd_BadPlace : Option Addr} {m0_BadPlace m1_BadPlace m2_BadPlace m3_BadPlace m5_BadPlace : Option Value}
    {nm_WrongKind q_WrongKind : Str} {N_WrongKind : Addr} {bs_WrongKind bm_WrongKind : List Value} {sn_WrongKind : List Str} {sub_WrongKind : List Value} {ab_WrongKind : Bool} {col_WrongKind : Option Bool} {dd_WrongKind : Option Addr} {m0_WrongKind m1_WrongKind m2_WrongKind m3_WrongKind m5_WrongKind : Option Value}
    {nm_NotTall q_NotTall : Str} {N_NotTall : Addr} {bs_NotTall bm_NotTall : List Value} {sn_NotTall : List Str} {sub_NotTall : List Value} {ab_NotTall : Bool} {col_NotTall : Option Bool} {dd_NotTall : Option Addr} {m0_NotTall m1_NotTall m2_NotTall m3_NotTall m5_NotTall : Option Value}
    {nm_NotAtRest q_NotAtRest : Str} {N_NotAtRest : Addr} {bs_NotAtRest bm_NotAtRest : List Value} {sn_NotAtRest : List Str} {sub_NotAtRest : List Value} {ab_NotAtRest : Bool} {col_NotAtRest : Option Bool} {dd_NotAtRest : Option Addr} {m0_NotAtRest m1_NotAtRest m2_NotAtRest m3_NotAtRest m5_NotAtRest : Option Value}
    (aC_BadOrder : PySem.W.nsIn K mainGlobals "BadOrder" = some (some (.ref c_BadOrder)))
    (aC_Beads : PySem.W.nsIn K mainGlobals "Beads" = some (some (.ref c_Beads)))
    (aC_BadBeads : PySem.W.nsIn K mainGlobals "BadBeads" = some (some (.ref c_BadBeads)))
    (aC_BadPlace : PySem.W.nsIn K mainGlobals "BadPlace" = some (some (.ref c_BadPlace)))
    (aC_WrongKind : PySem.W.nsIn K mainGlobals "WrongKind" = some (some (.ref c_WrongKind)))
    (aC_NotTall : PySem.W.nsIn K mainGlobals "NotTall" = some (some (.ref c_NotTall)))
    (aC_NotAtRest : PySem.W.nsIn K mainGlobals "NotAtRest" = some (some (.ref c_NotAtRest)))
    (a0 : PySem.W.nsIn K mainGlobals "_law_cell" = some (some (.ref f0)))
    (l0 : K.lookup f0 = some ⟨oc0, od0, .func (PySem.W.fnOf "_law_cell" "_law_cell" (defArgs s__law_cell) (defBody s__law_cell) (defScope s__law_cell) .none kV0 dc0 pm0 an0 cd0 ct0), sl0⟩)
    (co0 : PySem.W.codeIn K cd0 "_law_cell" = true)
    (k0 : PySem.W.keepIn K (.ref f0) = true)
    (a1 : PySem.W.nsIn K mainGlobals "_law_draws" = some (some (.ref f1)))
    (l1 : K.lookup f1 = some ⟨oc1, od1, .func (PySem.W.fnOf "_law_draws" "_law_draws" (defArgs s__law_draws) (defBody s__law_draws) (defScope s__law_draws) .none kV1 dc1 pm1 an1 cd1 ct1), sl1⟩)
    (co1 : PySem.W.codeIn K cd1 "_law_draws" = true)
    (k1 : PySem.W.keepIn K (.ref f1) = true)
    (a2 : PySem.W.nsIn K mainGlobals "_law_lengths" = some (some (.ref f2)))
    (l2 : K.lookup f2 = some ⟨oc2, od2, .func (PySem.W.fnOf "_law_lengths" "_law_lengths" (defArgs s__law_lengths) (defBody s__law_lengths) (defScope s__law_lengths) .none kV2 dc2 pm2 an2 cd2 ct2), sl2⟩)
    (co2 : PySem.W.codeIn K cd2 "_law_lengths" = true)
    (k2 : PySem.W.keepIn K (.ref f2) = true)
    (a3 : PySem.W.nsIn K mainGlobals "_law_shuffled" = some (some (.ref f3)))
    (l3 : K.lookup f3 = some ⟨oc3, od3, .func (PySem.W.fnOf "_law_shuffled" "_law_shuffled" (defArgs s__law_shuffled) (defBody s__law_shuffled) (defScope s__law_shuffled) .none kV3 dc3 pm3 an3 cd3 ct3), sl3⟩)
    (co3 : PySem.W.codeIn K cd3 "_law_shuffled" = true)
    (k3 : PySem.W.keepIn K (.ref f3) = true)
    (a4 : PySem.W.nsIn K mainGlobals "_law_reach" = some (some (.ref f4)))
    (l4 : K.lookup f4 = some ⟨oc4, od4, .func (PySem.W.fnOf "_law_reach" "_law_reach" (defArgs s__law_reach) (defBody s__law_reach) (defScope s__law_reach) .none kV4 dc4 pm4 an4 cd4 ct4), sl4⟩)
    (co4 : PySem.W.codeIn K cd4 "_law_reach" = true)
    (k4 : PySem.W.keepIn K (.ref f4) = true)
    (a5 : PySem.W.nsIn K mainGlobals "_law_left" = some (some (.ref f5)))
    (l5 : K.lookup f5 = some ⟨oc5, od5, .func (PySem.W.fnOf "_law_left" "_law_left" (defArgs s__law_left) (defBody s__law_left) (defScope s__law_left) .none kV5 dc5 pm5 an5 cd5 ct5), sl5⟩)
    (co5 : PySem.W.codeIn K cd5 "_law_left" = true)
    (k5 : PySem.W.keepIn K (.ref f5) = true)
    (a6 : PySem.W.nsIn K mainGlobals "check_order" = some (some (.ref f6)))
    (l6 : K.lookup f6 = some ⟨oc6, od6, .func (PySem.W.fnOf "check_order" "check_order" (defArgs s_check_order) (defBody s_check_order) (defScope s_check_order) .none kV6 dc6 pm6 an6 cd6 ct6), sl6⟩)
    (co6 : PySem.W.codeIn K cd6 "check_order" = true)
    (k6 : PySem.W.keepIn K (.ref f6) = true)
    (a7 : PySem.W.findIn K (.ref c_Beads) "__init__" = some (some (.ref f7)))
    (l7 : K.lookup f7 = some ⟨oc7, od7, .func (PySem.W.fnOf "__init__" "Beads.__init__" (defArgs s_Beads___init__) (defBody s_Beads___init__) (defScope s_Beads___init__) (.ref T7) (.ref D7) dc7 pm7 an7 cd7 ct7), sl7⟩)
    (co7 : PySem.W.codeIn K cd7 "Beads.__init__" = true)
    (k7 : PySem.W.keepIn K (.ref f7) = true)
    (lT7 : K.lookup T7 = some ⟨oT7, dT7, .seq [.none].toArray nT7, sT7⟩)
    (w7_ring : PySem.W.nsIn K D7 "ring" = some (some (.bool true)))
    (a8 : PySem.W.findIn K (.ref c_Beads) "__len__" = some (some (.ref f8)))
    (l8 : K.lookup f8 = some ⟨oc8, od8, .func (PySem.W.fnOf "__len__" "Beads.__len__" (defArgs s_Beads___len__) (defBody s_Beads___len__) (defScope s_Beads___len__) .none kV8 dc8 pm8 an8 cd8 ct8), sl8⟩)
    (co8 : PySem.W.codeIn K cd8 "Beads.__len__" = true)
    (k8 : PySem.W.keepIn K (.ref f8) = true)
    (a9 : PySem.W.nsIn K mainGlobals "check_place" = some (some (.ref f9)))
    (l9 : K.lookup f9 = some ⟨oc9, od9, .func (PySem.W.fnOf "check_place" "check_place" (defArgs s_check_place) (defBody s_check_place) (defScope s_check_place) .none kV9 dc9 pm9 an9 cd9 ct9), sl9⟩)
    (co9 : PySem.W.codeIn K cd9 "check_place" = true)
    (k9 : PySem.W.keepIn K (.ref f9) = true)
    (a10 : PySem.W.nsIn K mainGlobals "distinct" = some (some (.ref f10)))
    (l10 : K.lookup f10 = some ⟨oc10, od10, .func (PySem.W.fnOf "distinct" "distinct" (defArgs s_distinct) (defBody s_distinct) (defScope s_distinct) .none kV10 dc10 pm10 an10 cd10 ct10), sl10⟩)
    (co10 : PySem.W.codeIn K cd10 "distinct" = true)
    (k10 : PySem.W.keepIn K (.ref f10) = true)
    (a11 : PySem.W.nsIn K mainGlobals "run_of" = some (some (.ref f11)))
    (l11 : K.lookup f11 = some ⟨oc11, od11, .func (PySem.W.fnOf "run_of" "run_of" (defArgs s_run_of) (defBody s_run_of) (defScope s_run_of) .none kV11 dc11 pm11 an11 cd11 ct11), sl11⟩)
    (co11 : PySem.W.codeIn K cd11 "run_of" = true)
    (k11 : PySem.W.keepIn K (.ref f11) = true)
    (a12 : PySem.W.nsIn K mainGlobals "train_of" = some (some (.ref f12)))
    (l12 : K.lookup f12 = some ⟨oc12, od12, .func (PySem.W.fnOf "train_of" "train_of" (defArgs s_train_of) (defBody s_train_of) (defScope s_train_of) .none kV12 dc12 pm12 an12 cd12 ct12), sl12⟩)
    (co12 : PySem.W.codeIn K cd12 "train_of" = true)
    (k12 : PySem.W.keepIn K (.ref f12) = true)
    (a13 : PySem.W.nsIn K mainGlobals "reach_of" = some (some (.ref f13)))
    (l13 : K.lookup f13 = some ⟨oc13, od13, .func (PySem.W.fnOf "reach_of" "reach_of" (defArgs s_reach_of) (defBody s_reach_of) (defScope s_reach_of) .none kV13 dc13 pm13 an13 cd13 ct13), sl13⟩)
    (co13 : PySem.W.codeIn K cd13 "reach_of" = true)
    (k13 : PySem.W.keepIn K (.ref f13) = true)
    (a14 : PySem.W.nsIn K mainGlobals "changes_of" = some (some (.ref f14)))
    (l14 : K.lookup f14 = some ⟨oc14, od14, .func (PySem.W.fnOf "changes_of" "changes_of" (defArgs s_changes_of) (defBody s_changes_of) (defScope s_changes_of) .none kV14 dc14 pm14 an14 cd14 ct14), sl14⟩)
    (co14 : PySem.W.codeIn K cd14 "changes_of" = true)
    (k14 : PySem.W.keepIn K (.ref f14) = true)
    (a15 : PySem.W.nsIn K mainGlobals "replaced" = some (some (.ref f15)))
    (l15 : K.lookup f15 = some ⟨oc15, od15, .func (PySem.W.fnOf "replaced" "replaced" (defArgs s_replaced) (defBody s_replaced) (defScope s_replaced) .none kV15 dc15 pm15 an15 cd15 ct15), sl15⟩)
    (co15 : PySem.W.codeIn K cd15 "replaced" = true)
    (k15 : PySem.W.keepIn K (.ref f15) = true)
    (a16 : PySem.W.nsIn K mainGlobals "wake" = some (some (.ref f16)))
    (l16 : K.lookup f16 = some ⟨oc16, od16, .func (PySem.W.fnOf "wake" "wake" (defArgs s_wake) (defBody s_wake) (defScope s_wake) .none kV16 dc16 pm16 an16 cd16 ct16), sl16⟩)
    (co16 : PySem.W.codeIn K cd16 "wake" = true)
    (k16 : PySem.W.keepIn K (.ref f16) = true)
    (a17 : PySem.W.nsIn K mainGlobals "woken_once" = some (some (.ref f17)))
    (l17 : K.lookup f17 = some ⟨oc17, od17, .func (PySem.W.fnOf "woken_once" "woken_once" (defArgs s_woken_once) (defBody s_woken_once) (defScope s_woken_once) .none (.ref D17) dc17 pm17 an17 cd17 ct17), sl17⟩)
    (co17 : PySem.W.codeIn K cd17 "woken_once" = true)
    (k17 : PySem.W.keepIn K (.ref f17) = true)
    (w17_ring : PySem.W.nsIn K D17 "ring" = some (some (.bool false)))
    (a18 : PySem.W.nsIn K mainGlobals "_law_is_integer" = some (some (.ref f18)))
    (l18 : K.lookup f18 = some ⟨oc18, od18, .func (PySem.W.fnOf "_law_is_integer" "_law_is_integer" (defArgs s__law_is_integer) (defBody s__law_is_integer) (defScope s__law_is_integer) .none kV18 dc18 pm18 an18 cd18 ct18), sl18⟩)
    (co18 : PySem.W.codeIn K cd18 "_law_is_integer" = true)
    (k18 : PySem.W.keepIn K (.ref f18) = true)
    (a19 : PySem.W.nsIn K mainGlobals "_law_numbers" = some (some (.ref f19)))
    (l19 : K.lookup f19 = some ⟨oc19, od19, .func (PySem.W.fnOf "_law_numbers" "_law_numbers" (defArgs s__law_numbers) (defBody s__law_numbers) (defScope s__law_numbers) .none kV19 dc19 pm19 an19 cd19 ct19), sl19⟩)
    (co19 : PySem.W.codeIn K cd19 "_law_numbers" = true)
    (k19 : PySem.W.keepIn K (.ref f19) = true)
    (a20 : PySem.W.nsIn K mainGlobals "_law_is_standing" = some (some (.ref f20)))
    (l20 : K.lookup f20 = some ⟨oc20, od20, .func (PySem.W.fnOf "_law_is_standing" "_law_is_standing" (defArgs s__law_is_standing) (defBody s__law_is_standing) (defScope s__law_is_standing) .none kV20 dc20 pm20 an20 cd20 ct20), sl20⟩)
    (co20 : PySem.W.codeIn K cd20 "_law_is_standing" = true)
    (k20 : PySem.W.keepIn K (.ref f20) = true)
    (a21 : PySem.W.findIn K (.ref c_Beads) "total" = some (some (.ref f21)))
    (l21 : K.lookup f21 = some ⟨oc21, od21, .func (PySem.W.fnOf "total" "Beads.total" (defArgs s_Beads_total) (defBody s_Beads_total) (defScope s_Beads_total) .none kV21 dc21 pm21 an21 cd21 ct21), sl21⟩)
    (co21 : PySem.W.codeIn K cd21 "Beads.total" = true)
    (k21 : PySem.W.keepIn K (.ref f21) = true)
    (a22 : PySem.W.findIn K (.ref c_Beads) "greatest" = some (some (.ref f22)))
    (l22 : K.lookup f22 = some ⟨oc22, od22, .func (PySem.W.fnOf "greatest" "Beads.greatest" (defArgs s_Beads_greatest) (defBody s_Beads_greatest) (defScope s_Beads_greatest) .none kV22 dc22 pm22 an22 cd22 ct22), sl22⟩)
    (co22 : PySem.W.codeIn K cd22 "Beads.greatest" = true)
    (k22 : PySem.W.keepIn K (.ref f22) = true)
    (a23 : PySem.W.nsIn K mainGlobals "check_ring" = some (some (.ref f23)))
    (l23 : K.lookup f23 = some ⟨oc23, od23, .func (PySem.W.fnOf "check_ring" "check_ring" (defArgs s_check_ring) (defBody s_check_ring) (defScope s_check_ring) .none kV23 dc23 pm23 an23 cd23 ct23), sl23⟩)
    (co23 : PySem.W.codeIn K cd23 "check_ring" = true)
    (k23 : PySem.W.keepIn K (.ref f23) = true)
    (a24 : PySem.W.nsIn K mainGlobals "check_tall" = some (some (.ref f24)))
    (l24 : K.lookup f24 = some ⟨oc24, od24, .func (PySem.W.fnOf "check_tall" "check_tall" (defArgs s_check_tall) (defBody s_check_tall) (defScope s_check_tall) .none kV24 dc24 pm24 an24 cd24 ct24), sl24⟩)
    (co24 : PySem.W.codeIn K cd24 "check_tall" = true)
    (k24 : PySem.W.keepIn K (.ref f24) = true)
    (a25 : PySem.W.nsIn K mainGlobals "can_lead" = some (some (.ref f25)))
    (l25 : K.lookup f25 = some ⟨oc25, od25, .func (PySem.W.fnOf "can_lead" "can_lead" (defArgs s_can_lead) (defBody s_can_lead) (defScope s_can_lead) .none kV25 dc25 pm25 an25 cd25 ct25), sl25⟩)
    (co25 : PySem.W.codeIn K cd25 "can_lead" = true)
    (k25 : PySem.W.keepIn K (.ref f25) = true)
    (a26 : PySem.W.nsIn K mainGlobals "strongest_of" = some (some (.ref f26)))
    (l26 : K.lookup f26 = some ⟨oc26, od26, .func (PySem.W.fnOf "strongest_of" "strongest_of" (defArgs s_strongest_of) (defBody s_strongest_of) (defScope s_strongest_of) .none kV26 dc26 pm26 an26 cd26 ct26), sl26⟩)
    (co26 : PySem.W.codeIn K cd26 "strongest_of" = true)
    (k26 : PySem.W.keepIn K (.ref f26) = true)
    (a27 : PySem.W.nsIn K mainGlobals "sums_before" = some (some (.ref f27)))
    (l27 : K.lookup f27 = some ⟨oc27, od27, .func (PySem.W.fnOf "sums_before" "sums_before" (defArgs s_sums_before) (defBody s_sums_before) (defScope s_sums_before) .none kV27 dc27 pm27 an27 cd27 ct27), sl27⟩)
    (co27 : PySem.W.codeIn K cd27 "sums_before" = true)
    (k27 : PySem.W.keepIn K (.ref f27) = true)
    (a28 : PySem.W.nsIn K mainGlobals "arc_sums" = some (some (.ref f28)))
    (l28 : K.lookup f28 = some ⟨oc28, od28, .func (PySem.W.fnOf "arc_sums" "arc_sums" (defArgs s_arc_sums) (defBody s_arc_sums) (defScope s_arc_sums) .none kV28 dc28 pm28 an28 cd28 ct28), sl28⟩)
    (co28 : PySem.W.codeIn K cd28 "arc_sums" = true)
    (k28 : PySem.W.keepIn K (.ref f28) = true)
    (a29 : PySem.W.nsIn K mainGlobals "is_cutting" = some (some (.ref f29)))
    (l29 : K.lookup f29 = some ⟨oc29, od29, .func (PySem.W.fnOf "is_cutting" "is_cutting" (defArgs s_is_cutting) (defBody s_is_cutting) (defScope s_is_cutting) .none kV29 dc29 pm29 an29 cd29 ct29), sl29⟩)
    (co29 : PySem.W.codeIn K cd29 "is_cutting" = true)
    (k29 : PySem.W.keepIn K (.ref f29) = true)
    (a30 : PySem.W.nsIn K mainGlobals "settled_cut" = some (some (.ref f30)))
    (l30 : K.lookup f30 = some ⟨oc30, od30, .func (PySem.W.fnOf "settled_cut" "settled_cut" (defArgs s_settled_cut) (defBody s_settled_cut) (defScope s_settled_cut) .none kV30 dc30 pm30 an30 cd30 ct30), sl30⟩)
    (co30 : PySem.W.codeIn K cd30 "settled_cut" = true)
    (k30 : PySem.W.keepIn K (.ref f30) = true)
    (a31 : PySem.W.nsIn K mainGlobals "_law_alone" = some (some (.ref f31)))
    (l31 : K.lookup f31 = some ⟨oc31, od31, .func (PySem.W.fnOf "_law_alone" "_law_alone" (defArgs s__law_alone) (defBody s__law_alone) (defScope s__law_alone) .none kV31 dc31 pm31 an31 cd31 ct31), sl31⟩)
    (co31 : PySem.W.codeIn K cd31 "_law_alone" = true)
    (k31 : PySem.W.keepIn K (.ref f31) = true)
    (a32 : PySem.W.nsIn K mainGlobals "_law_handfuls" = some (some (.ref f32)))
    (l32 : K.lookup f32 = some ⟨oc32, od32, .func (PySem.W.fnOf "_law_handfuls" "_law_handfuls" (defArgs s__law_handfuls) (defBody s__law_handfuls) (defScope s__law_handfuls) .none kV32 dc32 pm32 an32 cd32 ct32), sl32⟩)
    (co32 : PySem.W.codeIn K cd32 "_law_handfuls" = true)
    (k32 : PySem.W.keepIn K (.ref f32) = true)
    (a33 : PySem.W.nsIn K mainGlobals "_law_restless" = some (some (.ref f33)))
    (l33 : K.lookup f33 = some ⟨oc33, od33, .func (PySem.W.fnOf "_law_restless" "_law_restless" (defArgs s__law_restless) (defBody s__law_restless) (defScope s__law_restless) .none kV33 dc33 pm33 an33 cd33 ct33), sl33⟩)
    (co33 : PySem.W.codeIn K cd33 "_law_restless" = true)
    (k33 : PySem.W.keepIn K (.ref f33) = true)
    (a34 : PySem.W.nsIn K mainGlobals "_law_woken" = some (some (.ref f34)))
    (l34 : K.lookup f34 = some ⟨oc34, od34, .func (PySem.W.fnOf "_law_woken" "_law_woken" (defArgs s__law_woken) (defBody s__law_woken) (defScope s__law_woken) .none kV34 dc34 pm34 an34 cd34 ct34), sl34⟩)
    (co34 : PySem.W.codeIn K cd34 "_law_woken" = true)
    (k34 : PySem.W.keepIn K (.ref f34) = true)
    (a35 : PySem.W.nsIn K mainGlobals "_law_order" = some (some (.ref f35)))
    (l35 : K.lookup f35 = some ⟨oc35, od35, .func (PySem.W.fnOf "_law_order" "_law_order" (defArgs s__law_order) (defBody s__law_order) (defScope s__law_order) .none kV35 dc35 pm35 an35 cd35 ct35), sl35⟩)
    (co35 : PySem.W.codeIn K cd35 "_law_order" = true)
    (k35 : PySem.W.keepIn K (.ref f35) = true)
    (a36 : PySem.W.nsIn K mainGlobals "_law_rested" = some (some (.ref f36)))
    (l36 : K.lookup f36 = some ⟨oc36, od36, .func (PySem.W.fnOf "_law_rested" "_law_rested" (defArgs s__law_rested) (defBody s__law_rested) (defScope s__law_rested) .none kV36 dc36 pm36 an36 cd36 ct36), sl36⟩)
    (co36 : PySem.W.codeIn K cd36 "_law_rested" = true)
    (k36 : PySem.W.keepIn K (.ref f36) = true)
    (a37 : PySem.W.nsIn K mainGlobals "reaches" = some (some (.ref f37)))
    (l37 : K.lookup f37 = some ⟨oc37, od37, .func (PySem.W.fnOf "reaches" "reaches" (defArgs s_reaches) (defBody s_reaches) (defScope s_reaches) .none kV37 dc37 pm37 an37 cd37 ct37), sl37⟩)
    (co37 : PySem.W.codeIn K cd37 "reaches" = true)
    (k37 : PySem.W.keepIn K (.ref f37) = true)
    (a38 : PySem.W.nsIn K mainGlobals "restless" = some (some (.ref f38)))
    (l38 : K.lookup f38 = some ⟨oc38, od38, .func (PySem.W.fnOf "restless" "restless" (defArgs s_restless) (defBody s_restless) (defScope s_restless) .none kV38 dc38 pm38 an38 cd38 ct38), sl38⟩)
    (co38 : PySem.W.codeIn K cd38 "restless" = true)
    (k38 : PySem.W.keepIn K (.ref f38) = true)
    (a39 : PySem.W.nsIn K mainGlobals "lord_of" = some (some (.ref f39)))
    (l39 : K.lookup f39 = some ⟨oc39, od39, .func (PySem.W.fnOf "lord_of" "lord_of" (defArgs s_lord_of) (defBody s_lord_of) (defScope s_lord_of) .none kV39 dc39 pm39 an39 cd39 ct39), sl39⟩)
    (co39 : PySem.W.codeIn K cd39 "lord_of" = true)
    (k39 : PySem.W.keepIn K (.ref f39) = true)
    (a40 : PySem.W.nsIn K mainGlobals "lords_of" = some (some (.ref f40)))
    (l40 : K.lookup f40 = some ⟨oc40, od40, .func (PySem.W.fnOf "lords_of" "lords_of" (defArgs s_lords_of) (defBody s_lords_of) (defScope s_lords_of) .none kV40 dc40 pm40 an40 cd40 ct40), sl40⟩)
    (co40 : PySem.W.codeIn K cd40 "lords_of" = true)
    (k40 : PySem.W.keepIn K (.ref f40) = true)
    (a41 : PySem.W.nsIn K mainGlobals "leaders_of" = some (some (.ref f41)))
    (l41 : K.lookup f41 = some ⟨oc41, od41, .func (PySem.W.fnOf "leaders_of" "leaders_of" (defArgs s_leaders_of) (defBody s_leaders_of) (defScope s_leaders_of) .none kV41 dc41 pm41 an41 cd41 ct41), sl41⟩)
    (co41 : PySem.W.codeIn K cd41 "leaders_of" = true)
    (k41 : PySem.W.keepIn K (.ref f41) = true)
    (a42 : PySem.W.nsIn K mainGlobals "resting_cut" = some (some (.ref f42)))
    (l42 : K.lookup f42 = some ⟨oc42, od42, .func (PySem.W.fnOf "resting_cut" "resting_cut" (defArgs s_resting_cut) (defBody s_resting_cut) (defScope s_resting_cut) .none kV42 dc42 pm42 an42 cd42 ct42), sl42⟩)
    (co42 : PySem.W.codeIn K cd42 "resting_cut" = true)
    (k42 : PySem.W.keepIn K (.ref f42) = true)
    (a43 : PySem.W.nsIn K mainGlobals "_law_kept" = some (some (.ref f43)))
    (l43 : K.lookup f43 = some ⟨oc43, od43, .func (PySem.W.fnOf "_law_kept" "_law_kept" (defArgs s__law_kept) (defBody s__law_kept) (defScope s__law_kept) .none kV43 dc43 pm43 an43 cd43 ct43), sl43⟩)
    (co43 : PySem.W.codeIn K cd43 "_law_kept" = true)
    (k43 : PySem.W.keepIn K (.ref f43) = true)
    (a44 : PySem.W.nsIn K mainGlobals "law" = some (some (.ref f44)))
    (l44 : K.lookup f44 = some ⟨oc44, od44, .func (PySem.W.fnOf "law" "law" (defArgs s_law) (defBody s_law) (defScope s_law) .none kV44 dc44 pm44 an44 cd44 ct44), sl44⟩)
    (co44 : PySem.W.codeIn K cd44 "law" = true)
    (k44 : PySem.W.keepIn K (.ref f44) = true)
    (a45 : PySem.W.findIn K (.ref c_BadOrder) "__init__" = some (some (.ref f45)))
    (l45 : K.lookup f45 = some ⟨oc45, od45, .func (PySem.W.fnOf "__init__" "BadOrder.__init__" (defArgs s_BadOrder___init__) (defBody s_BadOrder___init__) (defScope s_BadOrder___init__) .none kV45 dc45 pm45 an45 cd45 ct45), sl45⟩)
    (co45 : PySem.W.codeIn K cd45 "BadOrder.__init__" = true)
    (k45 : PySem.W.keepIn K (.ref f45) = true)
    (a46 : PySem.W.findIn K (.ref c_BadBeads) "__init__" = some (some (.ref f46)))
    (l46 : K.lookup f46 = some ⟨oc46, od46, .func (PySem.W.fnOf "__init__" "BadBeads.__init__" (defArgs s_BadBeads___init__) (defBody s_BadBeads___init__) (defScope s_BadBeads___init__) .none kV46 dc46 pm46 an46 cd46 ct46), sl46⟩)
    (co46 : PySem.W.codeIn K cd46 "BadBeads.__init__" = true)
    (k46 : PySem.W.keepIn K (.ref f46) = true)
    (a47 : PySem.W.findIn K (.ref c_BadPlace) "__init__" = some (some (.ref f47)))
    (l47 : K.lookup f47 = some ⟨oc47, od47, .func (PySem.W.fnOf "__init__" "BadPlace.__init__" (defArgs s_BadPlace___init__) (defBody s_BadPlace___init__) (defScope s_BadPlace___init__) .none kV47 dc47 pm47 an47 cd47 ct47), sl47⟩)
    (co47 : PySem.W.codeIn K cd47 "BadPlace.__init__" = true)
    (k47 : PySem.W.keepIn K (.ref f47) = true)
    (a48 : PySem.W.findIn K (.ref c_WrongKind) "__init__" = some (some (.ref f48)))
    (l48 : K.lookup f48 = some ⟨oc48, od48, .func (PySem.W.fnOf "__init__" "WrongKind.__init__" (defArgs s_WrongKind___init__) (defBody s_WrongKind___init__) (defScope s_WrongKind___init__) .none kV48 dc48 pm48 an48 cd48 ct48), sl48⟩)
    (co48 : PySem.W.codeIn K cd48 "WrongKind.__init__" = true)
    (k48 : PySem.W.keepIn K (.ref f48) = true)
    (a49 : PySem.W.findIn K (.ref c_NotTall) "__init__" = some (some (.ref f49)))
    (l49 : K.lookup f49 = some ⟨oc49, od49, .func (PySem.W.fnOf "__init__" "NotTall.__init__" (defArgs s_NotTall___init__) (defBody s_NotTall___init__) (defScope s_NotTall___init__) .none kV49 dc49 pm49 an49 cd49 ct49), sl49⟩)
    (co49 : PySem.W.codeIn K cd49 "NotTall.__init__" = true)
    (k49 : PySem.W.keepIn K (.ref f49) = true)
    (a50 : PySem.W.findIn K (.ref c_NotAtRest) "__init__" = some (some (.ref f50)))
    (l50 : K.lookup f50 = some ⟨oc50, od50, .func (PySem.W.fnOf "__init__" "NotAtRest.__init__" (defArgs s_NotAtRest___init__) (defBody s_NotAtRest___init__) (defScope s_NotAtRest___init__) .none kV50 dc50 pm50 an50 cd50 ct50), sl50⟩)
    (co50 : PySem.W.codeIn K cd50 "NotAtRest.__init__" = true)
    (k50 : PySem.W.keepIn K (.ref f50) = true)
    (z_bool : PySem.W.nsIn K mainGlobals "bool" = some none)
    (z_enumerate : PySem.W.nsIn K mainGlobals "enumerate" = some none)
    (z_int : PySem.W.nsIn K mainGlobals "int" = some none)
    (z_isinstance : PySem.W.nsIn K mainGlobals "isinstance" = some none)
    (z_len : PySem.W.nsIn K mainGlobals "len" = some none)
    (z_list : PySem.W.nsIn K mainGlobals "list" = some none)
    (z_max : PySem.W.nsIn K mainGlobals "max" = some none)
    (z_min : PySem.W.nsIn K mainGlobals "min" = some none)
    (z_range : PySem.W.nsIn K mainGlobals "range" = some none)
    (z_reversed : PySem.W.nsIn K mainGlobals "reversed" = some none)
    (z_set : PySem.W.nsIn K mainGlobals "set" = some none)
    (z_sorted : PySem.W.nsIn K mainGlobals "sorted" = some none)
    (z_sum : PySem.W.nsIn K mainGlobals "sum" = some none)
    (z_tuple : PySem.W.nsIn K mainGlobals "tuple" = some none)
    (pg_Beads : PySem.W.plainGet K c_Beads Str.empty = true)
    (hd_Beads : PySem.W.hasDictIn K c_Beads = true)
    (po_Beads : PySem.W.plainOver K c_Beads = true)
    (sa_Beads : PySem.W.findIn K (.ref c_Beads) "__setattr__" = some (some (.builtin "object.__setattr__")))
    (mk_Beads : PySem.W.makesIn K c_Beads = true)
    (kc_Beads : PySem.W.keepIn K (.ref c_Beads) = true)
    (fn_Beads : PySem.W.isFn K (.ref f7) = true)
    (cc_Beads : PySem.W.findIn K (.ref c_Beads) "__class__" = some (some (.builtin "object.__class__")))
    (mr_Beads : PySem.W.mroIn K c_Beads (.type "object") = some true)
    (sp_ : PySem.W.specialIn K (.builtin "object.__class__") "__get__" = some (some (.builtin "getset_descriptor.__get__")))
    (tk_ : PySem.W.takesIn K (.builtin "object.__class__") = some true)
    (xn_BadOrder_index : PySem.W.findIn K (.ref c_BadOrder) "index" = some none)
    (na_Beads_strengths : PySem.W.findIn K (.ref c_Beads) "strengths" = some none)
    (na_Beads_lengths : PySem.W.findIn K (.ref c_Beads) "lengths" = some none)
    (na_Beads_ring : PySem.W.findIn K (.ref c_Beads) "ring" = some none)
    (xn_BadBeads_place : PySem.W.findIn K (.ref c_BadBeads) "place" = some none)
    (fn_Beads___len__ : PySem.W.isFn K (.ref f8) = true)
    (xn_BadPlace_place : PySem.W.findIn K (.ref c_BadPlace) "place" = some none)
    (fn_Beads_total : PySem.W.isFn K (.ref f21) = true)
    (fn_Beads_greatest : PySem.W.isFn K (.ref f22) = true)
    (xn_WrongKind_ring : PySem.W.findIn K (.ref c_WrongKind) "ring" = some none)
    (xn_NotTall_greatest : PySem.W.findIn K (.ref c_NotTall) "greatest" = some none)
    (xn_NotTall_total : PySem.W.findIn K (.ref c_NotTall) "total" = some none)
    (xn_NotAtRest_place : PySem.W.findIn K (.ref c_NotAtRest) "place" = some none)
    (xL_BadOrder : K.lookup c_BadOrder = some (excClassObj nm_BadOrder q_BadOrder c_BadOrder N_BadOrder bs_BadOrder bm_BadOrder true sn_BadOrder sub_BadOrder ab_BadOrder col_BadOrder dd_BadOrder m0_BadOrder m1_BadOrder m2_BadOrder m3_BadOrder m5_BadOrder "ValueError.__new__"))
    (rv_BadOrder : PySem.HandSPX.refsVE bm_BadOrder = true)
    (xs_BadOrder : PySem.W.findIn K (.ref c_BadOrder) "__setattr__" = some (some (.builtin "object.__setattr__")))
    (xg_BadOrder : PySem.W.findIn K (.ref c_BadOrder) "__getattribute__" = some (some (.builtin "BaseException.__getattribute__")))
    (xh_BadOrder : PySem.W.findIn K (.ref c_BadOrder) "__getattr__" = some none)
    (xi_BadOrder : PySem.W.findIn K (.ref c_BadOrder) "__init__" = some (some (.ref f45)))
    (xt_BadOrder : PySem.W.typeIn K (.ref f45) = some (.type "function"))
    (xk_BadOrder : PySem.W.keepIn K (.ref c_BadOrder) = true)
    (xe_BadOrder : PySem.W.subIn K (.ref c_BadOrder) (.type "BaseException") = some true)
    (xy_BadOrder : PySem.W.typeIn K (.ref c_BadOrder) = some (.type "type"))
    (xd_BadOrder : PySem.W.hasDictIn K c_BadOrder = true)
    (xc_BadOrder : PySem.W.isClsIn K c_BadOrder = true)
    (xq_BadOrder : PySem.W.subIn K (.ref c_BadOrder) (.ref c_BadOrder) = some true)
    (xL_BadBeads : K.lookup c_BadBeads = some (excClassObj nm_BadBeads q_BadBeads c_BadBeads N_BadBeads bs_BadBeads bm_BadBeads true sn_BadBeads sub_BadBeads ab_BadBeads col_BadBeads dd_BadBeads m0_BadBeads m1_BadBeads m2_BadBeads m3_BadBeads m5_BadBeads "ValueError.__new__"))
    (rv_BadBeads : PySem.HandSPX.refsVE bm_BadBeads = true)
    (xs_BadBeads : PySem.W.findIn K (.ref c_BadBeads) "__setattr__" = some (some (.builtin "object.__setattr__")))
    (xg_BadBeads : PySem.W.findIn K (.ref c_BadBeads) "__getattribute__" = some (some (.builtin "BaseException.__getattribute__")))
    (xh_BadBeads : PySem.W.findIn K (.ref c_BadBeads) "__getattr__" = some none)
    (xi_BadBeads : PySem.W.findIn K (.ref c_BadBeads) "__init__" = some (some (.ref f46)))
    (xt_BadBeads : PySem.W.typeIn K (.ref f46) = some (.type "function"))
    (xk_BadBeads : PySem.W.keepIn K (.ref c_BadBeads) = true)
    (xe_BadBeads : PySem.W.subIn K (.ref c_BadBeads) (.type "BaseException") = some true)
    (xy_BadBeads : PySem.W.typeIn K (.ref c_BadBeads) = some (.type "type"))
    (xd_BadBeads : PySem.W.hasDictIn K c_BadBeads = true)
    (xc_BadBeads : PySem.W.isClsIn K c_BadBeads = true)
    (xq_BadBeads : PySem.W.subIn K (.ref c_BadBeads) (.ref c_BadBeads) = some true)
    (xL_BadPlace : K.lookup c_BadPlace = some (excClassObj nm_BadPlace q_BadPlace c_BadPlace N_BadPlace bs_BadPlace bm_BadPlace true sn_BadPlace sub_BadPlace ab_BadPlace col_BadPlace dd_BadPlace m0_BadPlace m1_BadPlace m2_BadPlace m3_BadPlace m5_BadPlace "ValueError.__new__"))
    (rv_BadPlace : PySem.HandSPX.refsVE bm_BadPlace = true)
    (xs_BadPlace : PySem.W.findIn K (.ref c_BadPlace) "__setattr__" = some (some (.builtin "object.__setattr__")))
    (xg_BadPlace : PySem.W.findIn K (.ref c_BadPlace) "__getattribute__" = some (some (.builtin "BaseException.__getattribute__")))
    (xh_BadPlace : PySem.W.findIn K (.ref c_BadPlace) "__getattr__" = some none)
    (xi_BadPlace : PySem.W.findIn K (.ref c_BadPlace) "__init__" = some (some (.ref f47)))
    (xt_BadPlace : PySem.W.typeIn K (.ref f47) = some (.type "function"))
    (xk_BadPlace : PySem.W.keepIn K (.ref c_BadPlace) = true)
    (xe_BadPlace : PySem.W.subIn K (.ref c_BadPlace) (.type "BaseException") = some true)
    (xy_BadPlace : PySem.W.typeIn K (.ref c_BadPlace) = some (.type "type"))
    (xd_BadPlace : PySem.W.hasDictIn K c_BadPlace = true)
    (xc_BadPlace : PySem.W.isClsIn K c_BadPlace = true)
    (xq_BadPlace : PySem.W.subIn K (.ref c_BadPlace) (.ref c_BadPlace) = some true)
    (xL_WrongKind : K.lookup c_WrongKind = some (excClassObj nm_WrongKind q_WrongKind c_WrongKind N_WrongKind bs_WrongKind bm_WrongKind true sn_WrongKind sub_WrongKind ab_WrongKind col_WrongKind dd_WrongKind m0_WrongKind m1_WrongKind m2_WrongKind m3_WrongKind m5_WrongKind "ValueError.__new__"))
    (rv_WrongKind : PySem.HandSPX.refsVE bm_WrongKind = true)
    (xs_WrongKind : PySem.W.findIn K (.ref c_WrongKind) "__setattr__" = some (some (.builtin "object.__setattr__")))
    (xg_WrongKind : PySem.W.findIn K (.ref c_WrongKind) "__getattribute__" = some (some (.builtin "BaseException.__getattribute__")))
    (xh_WrongKind : PySem.W.findIn K (.ref c_WrongKind) "__getattr__" = some none)
    (xi_WrongKind : PySem.W.findIn K (.ref c_WrongKind) "__init__" = some (some (.ref f48)))
    (xt_WrongKind : PySem.W.typeIn K (.ref f48) = some (.type "function"))
    (xk_WrongKind : PySem.W.keepIn K (.ref c_WrongKind) = true)
    (xe_WrongKind : PySem.W.subIn K (.ref c_WrongKind) (.type "BaseException") = some true)
    (xy_WrongKind : PySem.W.typeIn K (.ref c_WrongKind) = some (.type "type"))
    (xd_WrongKind : PySem.W.hasDictIn K c_WrongKind = true)
    (xc_WrongKind : PySem.W.isClsIn K c_WrongKind = true)
    (xq_WrongKind : PySem.W.subIn K (.ref c_WrongKind) (.ref c_WrongKind) = some true)
    (xL_NotTall : K.lookup c_NotTall = some (excClassObj nm_NotTall q_NotTall c_NotTall N_NotTall bs_NotTall bm_NotTall true sn_NotTall sub_NotTall ab_NotTall col_NotTall dd_NotTall m0_NotTall m1_NotTall m2_NotTall m3_NotTall m5_NotTall "ValueError.__new__"))
    (rv_NotTall : PySem.HandSPX.refsVE bm_NotTall = true)
    (xs_NotTall : PySem.W.findIn K (.ref c_NotTall) "__setattr__" = some (some (.builtin "object.__setattr__")))
    (xg_NotTall : PySem.W.findIn K (.ref c_NotTall) "__getattribute__" = some (some (.builtin "BaseException.__getattribute__")))
    (xh_NotTall : PySem.W.findIn K (.ref c_NotTall) "__getattr__" = some none)
    (xi_NotTall : PySem.W.findIn K (.ref c_NotTall) "__init__" = some (some (.ref f49)))
    (xt_NotTall : PySem.W.typeIn K (.ref f49) = some (.type "function"))
    (xk_NotTall : PySem.W.keepIn K (.ref c_NotTall) = true)
    (xe_NotTall : PySem.W.subIn K (.ref c_NotTall) (.type "BaseException") = some true)
    (xy_NotTall : PySem.W.typeIn K (.ref c_NotTall) = some (.type "type"))
    (xd_NotTall : PySem.W.hasDictIn K c_NotTall = true)
    (xc_NotTall : PySem.W.isClsIn K c_NotTall = true)
    (xq_NotTall : PySem.W.subIn K (.ref c_NotTall) (.ref c_NotTall) = some true)
    (xL_NotAtRest : K.lookup c_NotAtRest = some (excClassObj nm_NotAtRest q_NotAtRest c_NotAtRest N_NotAtRest bs_NotAtRest bm_NotAtRest true sn_NotAtRest sub_NotAtRest ab_NotAtRest col_NotAtRest dd_NotAtRest m0_NotAtRest m1_NotAtRest m2_NotAtRest m3_NotAtRest m5_NotAtRest "ValueError.__new__"))
    (rv_NotAtRest : PySem.HandSPX.refsVE bm_NotAtRest = true)
    (xs_NotAtRest : PySem.W.findIn K (.ref c_NotAtRest) "__setattr__" = some (some (.builtin "object.__setattr__")))
    (xg_NotAtRest : PySem.W.findIn K (.ref c_NotAtRest) "__getattribute__" = some (some (.builtin "BaseException.__getattribute__")))
    (xh_NotAtRest : PySem.W.findIn K (.ref c_NotAtRest) "__getattr__" = some none)
    (xi_NotAtRest : PySem.W.findIn K (.ref c_NotAtRest) "__init__" = some (some (.ref f50)))
    (xt_NotAtRest : PySem.W.typeIn K (.ref f50) = some (.type "function"))
    (xk_NotAtRest : PySem.W.keepIn K (.ref c_NotAtRest) = true)
    (xe_NotAtRest : PySem.W.subIn K (.ref c_NotAtRest) (.type "BaseException") = some true)
    (xy_NotAtRest : PySem.W.typeIn K (.ref c_NotAtRest) = some (.type "type"))
    (xd_NotAtRest : PySem.W.hasDictIn K c_NotAtRest = true)
    (xc_NotAtRest : PySem.W.isClsIn K c_NotAtRest = true)
    (xq_NotAtRest : PySem.W.subIn K (.ref c_NotAtRest) (.ref c_NotAtRest) = some true)
    : ∃ fd : FuncData, (∀ (s : Shared) (v : Value), BindsTo s fd ⟨[v], []⟩ [("script", v)]) ∧ ∀ base : Heap, K.In base → base.Ns mainGlobals mg → FnOk l.prog w K mg base (L2N.CX l.prog w) 11 fa0 fd ["script"] (spLaw K) := by
  have e := hfa.symm.trans (PySem.W.mg_of X G a44)
  cases e
  have F0 := fun_mk (st := s__law_cell) l0 co0 k0
  have b0 := F0.binds (ps := ["script", "k"]) fun _ _ _ _ _ _ us hl => match us, hl with | [_, _], _ => rfl
  have F1 := fun_mk (st := s__law_draws) l1 co1 k1
  have b1 := F1.binds (ps := ["cell", "sizes"]) fun _ _ _ _ _ _ us hl => match us, hl with | [_, _], _ => rfl
  have F2 := fun_mk (st := s__law_lengths) l2 co2 k2
  have b2 := F2.binds (ps := ["cell", "many"]) fun _ _ _ _ _ _ us hl => match us, hl with | [_, _], _ => rfl
  have F3 := fun_mk (st := s__law_shuffled) l3 co3 k3
  have b3 := F3.binds (ps := ["cell", "many"]) fun _ _ _ _ _ _ us hl => match us, hl with | [_, _], _ => rfl
  have F4 := fun_mk (st := s__law_reach) l4 co4 k4
  have b4 := F4.binds (ps := ["round_flag", "sizes", "strengths", "place"]) fun _ _ _ _ _ _ us hl => match us, hl with | [_, _, _, _], _ => rfl
  have F5 := fun_mk (st := s__law_left) l5 co5 k5
  have b5 := F5.binds (ps := ["round_flag", "sizes", "places"]) fun _ _ _ _ _ _ us hl => match us, hl with | [_, _, _], _ => rfl
  have F6 := fun_mk (st := s_check_order) l6 co6 k6
  have b6 := F6.binds (ps := ["order", "size"]) fun _ _ _ _ _ _ us hl => match us, hl with | [_, _], _ => rfl
  have F7 : FunD K "__init__" "Beads.__init__" (defArgs s_Beads___init__) (defBody s_Beads___init__) (defScope s_Beads___init__) [.non] [("ring", .bl true)] f7 _ := ⟨⟨_, _, _, _, _, _, _, _, _, _, rfl, l7, co7, .inr ⟨by simp, T7, _, [.none], _, rfl, lT7, rfl, (.cons rfl .nil)⟩, .inr ⟨D7, rfl, (fun q hq => by rw [List.mem_singleton.mp hq]; exact ⟨_, w7_ring, rfl⟩)⟩⟩, k7⟩
  have F8 := fun_mk (st := s_Beads___len__) l8 co8 k8
  have b8 := F8.binds (ps := ["self"]) fun _ _ _ _ _ _ us hl => match us, hl with | [_], _ => rfl
  have F9 := fun_mk (st := s_check_place) l9 co9 k9
  have b9 := F9.binds (ps := ["place", "size"]) fun _ _ _ _ _ _ us hl => match us, hl with | [_, _], _ => rfl
  have F10 := fun_mk (st := s_distinct) l10 co10 k10
  have b10 := F10.binds (ps := ["handful", "size"]) fun _ _ _ _ _ _ us hl => match us, hl with | [_, _], _ => rfl
  have F11 := fun_mk (st := s_run_of) l11 co11 k11
  have b11 := F11.binds (ps := ["beads", "place"]) fun _ _ _ _ _ _ us hl => match us, hl with | [_, _], _ => rfl
  have F12 := fun_mk (st := s_train_of) l12 co12 k12
  have b12 := F12.binds (ps := ["beads", "place"]) fun _ _ _ _ _ _ us hl => match us, hl with | [_, _], _ => rfl
  have F13 := fun_mk (st := s_reach_of) l13 co13 k13
  have b13 := F13.binds (ps := ["beads", "place"]) fun _ _ _ _ _ _ us hl => match us, hl with | [_, _], _ => rfl
  have F14 := fun_mk (st := s_changes_of) l14 co14 k14
  have b14 := F14.binds (ps := ["beads", "handful"]) fun _ _ _ _ _ _ us hl => match us, hl with | [_, _], _ => rfl
  have F15 := fun_mk (st := s_replaced) l15 co15 k15
  have b15 := F15.binds (ps := ["beads", "changes"]) fun _ _ _ _ _ _ us hl => match us, hl with | [_, _], _ => rfl
  have F16 := fun_mk (st := s_wake) l16 co16 k16
  have b16 := F16.binds (ps := ["beads", "handful"]) fun _ _ _ _ _ _ us hl => match us, hl with | [_, _], _ => rfl
  have F17 : FunD K "woken_once" "woken_once" (defArgs s_woken_once) (defBody s_woken_once) (defScope s_woken_once) [] [("ring", .bl false)] f17 _ := ⟨⟨_, _, _, _, _, _, _, _, _, _, rfl, l17, co17, .inl ⟨rfl, rfl⟩, .inr ⟨D17, rfl, (fun q hq => by rw [List.mem_singleton.mp hq]; exact ⟨_, w17_ring, rfl⟩)⟩⟩, k17⟩
  have F18 := fun_mk (st := s__law_is_integer) l18 co18 k18
  have b18 := F18.binds (ps := ["actual"]) fun _ _ _ _ _ _ us hl => match us, hl with | [_], _ => rfl
  have F19 := fun_mk (st := s__law_numbers) l19 co19 k19
  have b19 := F19.binds (ps := ["actual", "due", "as_tuple"]) fun _ _ _ _ _ _ us hl => match us, hl with | [_, _, _], _ => rfl
  have F20 := fun_mk (st := s__law_is_standing) l20 co20 k20
  have b20 := F20.binds (ps := ["actual", "round_flag", "sizes", "strengths"]) fun _ _ _ _ _ _ us hl => match us, hl with | [_, _, _, _], _ => rfl
  have F21 := fun_mk (st := s_Beads_total) l21 co21 k21
  have b21 := F21.binds (ps := ["self"]) fun _ _ _ _ _ _ us hl => match us, hl with | [_], _ => rfl
  have F22 := fun_mk (st := s_Beads_greatest) l22 co22 k22
  have b22 := F22.binds (ps := ["self"]) fun _ _ _ _ _ _ us hl => match us, hl with | [_], _ => rfl
  have F23 := fun_mk (st := s_check_ring) l23 co23 k23
  have b23 := F23.binds (ps := ["beads"]) fun _ _ _ _ _ _ us hl => match us, hl with | [_], _ => rfl
  have F24 := fun_mk (st := s_check_tall) l24 co24 k24
  have b24 := F24.binds (ps := ["beads"]) fun _ _ _ _ _ _ us hl => match us, hl with | [_], _ => rfl
  have F25 := fun_mk (st := s_can_lead) l25 co25 k25
  have b25 := F25.binds (ps := ["beads"]) fun _ _ _ _ _ _ us hl => match us, hl with | [_], _ => rfl
  have F26 := fun_mk (st := s_strongest_of) l26 co26 k26
  have b26 := F26.binds (ps := ["beads"]) fun _ _ _ _ _ _ us hl => match us, hl with | [_], _ => rfl
  have F27 := fun_mk (st := s_sums_before) l27 co27 k27
  have b27 := F27.binds (ps := ["lengths"]) fun _ _ _ _ _ _ us hl => match us, hl with | [_], _ => rfl
  have F28 := fun_mk (st := s_arc_sums) l28 co28 k28
  have b28 := F28.binds (ps := ["lengths", "heads"]) fun _ _ _ _ _ _ us hl => match us, hl with | [_, _], _ => rfl
  have F29 := fun_mk (st := s_is_cutting) l29 co29 k29
  have b29 := F29.binds (ps := ["beads", "heads"]) fun _ _ _ _ _ _ us hl => match us, hl with | [_, _], _ => rfl
  have F30 := fun_mk (st := s_settled_cut) l30 co30 k30
  have b30 := F30.binds (ps := ["beads"]) fun _ _ _ _ _ _ us hl => match us, hl with | [_], _ => rfl
  have F31 := fun_mk (st := s__law_alone) l31 co31 k31
  have b31 := F31.binds (ps := ["beads", "sizes", "strengths", "last"]) fun _ _ _ _ _ _ us hl => match us, hl with | [_, _, _, _], _ => rfl
  have F32 := fun_mk (st := s__law_handfuls) l32 co32 k32
  have b32 := F32.binds (ps := ["cell", "size", "many"]) fun _ _ _ _ _ _ us hl => match us, hl with | [_, _, _], _ => rfl
  have F33 := fun_mk (st := s__law_restless) l33 co33 k33
  have b33 := F33.binds (ps := ["round_flag", "sizes", "strengths"]) fun _ _ _ _ _ _ us hl => match us, hl with | [_, _, _], _ => rfl
  have F34 := fun_mk (st := s__law_woken) l34 co34 k34
  have b34 := F34.binds (ps := ["round_flag", "sizes", "strengths", "places"]) fun _ _ _ _ _ _ us hl => match us, hl with | [_, _, _, _], _ => rfl
  have F35 := fun_mk (st := s__law_order) l35 co35 k35
  have b35 := F35.binds (ps := ["cell", "round_flag", "sizes", "strengths", "many"]) fun _ _ _ _ _ _ us hl => match us, hl with | [_, _, _, _, _], _ => rfl
  have F36 := fun_mk (st := s__law_rested) l36 co36 k36
  have b36 := F36.binds (ps := ["sizes", "strengths"]) fun _ _ _ _ _ _ us hl => match us, hl with | [_, _], _ => rfl
  have F37 := fun_mk (st := s_reaches) l37 co37 k37
  have b37 := F37.binds (ps := ["beads"]) fun _ _ _ _ _ _ us hl => match us, hl with | [_], _ => rfl
  have F38 := fun_mk (st := s_restless) l38 co38 k38
  have b38 := F38.binds (ps := ["beads"]) fun _ _ _ _ _ _ us hl => match us, hl with | [_], _ => rfl
  have F39 := fun_mk (st := s_lord_of) l39 co39 k39
  have b39 := F39.binds (ps := ["beads", "place"]) fun _ _ _ _ _ _ us hl => match us, hl with | [_, _], _ => rfl
  have F40 := fun_mk (st := s_lords_of) l40 co40 k40
  have b40 := F40.binds (ps := ["beads"]) fun _ _ _ _ _ _ us hl => match us, hl with | [_], _ => rfl
  have F41 := fun_mk (st := s_leaders_of) l41 co41 k41
  have b41 := F41.binds (ps := ["beads"]) fun _ _ _ _ _ _ us hl => match us, hl with | [_], _ => rfl
  have F42 := fun_mk (st := s_resting_cut) l42 co42 k42
  have b42 := F42.binds (ps := ["beads"]) fun _ _ _ _ _ _ us hl => match us, hl with | [_], _ => rfl
  have F43 := fun_mk (st := s__law_kept) l43 co43 k43
  have b43 := F43.binds (ps := ["sizes", "strengths", "order", "last"]) fun _ _ _ _ _ _ us hl => match us, hl with | [_, _, _, _], _ => rfl
  have F44 := fun_mk (st := s_law) l44 co44 k44
  have b44 := F44.binds (ps := ["script"]) fun _ _ _ _ _ _ us hl => match us, hl with | [_], _ => rfl
  have F45 := fun_mk (st := s_BadOrder___init__) l45 co45 k45
  have b45 := F45.binds (ps := ["self", "index"]) fun _ _ _ _ _ _ us hl => match us, hl with | [_, _], _ => rfl
  have F46 := fun_mk (st := s_BadBeads___init__) l46 co46 k46
  have b46 := F46.binds (ps := ["self", "place"]) fun _ _ _ _ _ _ us hl => match us, hl with | [_, _], _ => rfl
  have F47 := fun_mk (st := s_BadPlace___init__) l47 co47 k47
  have b47 := F47.binds (ps := ["self", "place"]) fun _ _ _ _ _ _ us hl => match us, hl with | [_, _], _ => rfl
  have F48 := fun_mk (st := s_WrongKind___init__) l48 co48 k48
  have b48 := F48.binds (ps := ["self", "ring"]) fun _ _ _ _ _ _ us hl => match us, hl with | [_, _], _ => rfl
  have F49 := fun_mk (st := s_NotTall___init__) l49 co49 k49
  have b49 := F49.binds (ps := ["self", "greatest", "total"]) fun _ _ _ _ _ _ us hl => match us, hl with | [_, _, _], _ => rfl
  have F50 := fun_mk (st := s_NotAtRest___init__) l50 co50 k50
  have b50 := F50.binds (ps := ["self", "place"]) fun _ _ _ _ _ _ us hl => match us, hl with | [_, _], _ => rfl
  obtain ⟨its_, mv_, kb_Beads⟩ := F7.kbinds (ps := ["self", "strengths", "lengths", "ring"]) 3 ["ring"] [] (fun us _ _ ws => us ++ ws) (by simp) (by simp) (by simp) (fun r1 _ _ r4 => r1.append r4) (fun T D doc pm an cdv ct us its mv ws h1 h2 h3 h4 => by
    match us, its, mv, ws, h1, h2, h3, h4 with
    | [_, _, _], [_], [], [_], _, _, _, _ => exact ⟨_, rfl, rfl⟩)
  obtain ⟨mv_woken_once, kf_woken_once⟩ := F17.kbinds0 (ps := ["lengths", "order", "ring"]) 2 ["ring"] [] (fun us _ ws => us ++ ws) (by simp) (by simp) (fun r1 _ r3 => r1.append r3) (fun D doc pm an cdv ct us mv ws h1 h2 h3 => by
    match us, mv, ws, h1, h2, h3 with
    | [_, _], [], [_], _, _, _ => exact rfl)
  have kbd_Beads_3_1 := kb_dfl (n := 3) (dvs := [.bl true]) (F7.binds (ps := ["self", "strengths", "lengths", "ring"]) 3 1 (by simp) rfl (fun T D doc pm an cdv ct us its ks h1 h2 h3 => by
    match us, its, ks, h1, h2, h3 with
    | [_, _, _], [_], [_], _, _, _ => exact ⟨_, rfl, ⟨_, _, _, _, _, _, rfl, rfl, rfl⟩⟩) (by simp)) rfl
  have T : Tx K mg (caL [("BadOrder", c_BadOrder), ("Beads", c_Beads), ("BadBeads", c_BadBeads), ("BadPlace", c_BadPlace), ("WrongKind", c_WrongKind), ("NotTall", c_NotTall), ("NotAtRest", c_NotAtRest)]) (faL [f0, f1, f2, f3, f4, f5, f6, f7, f8, f9, f10, f11, f12, f13, f14, f15, f16, f17, f18, f19, f20, f21, f22, f23, f24, f25, f26, f27, f28, f29, f30, f31, f32, f33, f34, f35, f36, f37, f38, f39, f40, f41, f42, f43, fa0, f45, f46, f47, f48, f49, f50]) (fdL F44 [_, _, _, _, _, _, _, _, _, _, _, _, _, _, _, _, _, _, _, _, _, _, _, _, _, _, _, _, _, _, _, _, _, _, _, _, _, _, _, _, _, _, _, _, _, _, _, _, _, _, _]) := {
    F__law_cell := F0
    b__law_cell := b0
    g__law_cell := PySem.W.mg_of X G a0
    k__law_cell := k0
    F__law_draws := F1
    b__law_draws := b1
    g__law_draws := PySem.W.mg_of X G a1
    k__law_draws := k1
    F__law_lengths := F2
    b__law_lengths := b2
    g__law_lengths := PySem.W.mg_of X G a2
    k__law_lengths := k2
    F__law_shuffled := F3
    b__law_shuffled := b3
    g__law_shuffled := PySem.W.mg_of X G a3
    k__law_shuffled := k3
    F__law_reach := F4
    b__law_reach := b4
    g__law_reach := PySem.W.mg_of X G a4
    k__law_reach := k4
    F__law_left := F5
    b__law_left := b5
    g__law_left := PySem.W.mg_of X G a5
    k__law_left := k5
    F_check_order := F6
    b_check_order := b6
    g_check_order := PySem.W.mg_of X G a6
    k_check_order := k6
    F_Beads___init__ := F7
    F_Beads___len__ := F8
    b_Beads___len__ := b8
    F_check_place := F9
    b_check_place := b9
    g_check_place := PySem.W.mg_of X G a9
    k_check_place := k9
    F_distinct := F10
    b_distinct := b10
    g_distinct := PySem.W.mg_of X G a10
    k_distinct := k10
    F_run_of := F11
    b_run_of := b11
    g_run_of := PySem.W.mg_of X G a11
    k_run_of := k11
    F_train_of := F12
    b_train_of := b12
    g_train_of := PySem.W.mg_of X G a12
    k_train_of := k12
    F_reach_of := F13
    b_reach_of := b13
    g_reach_of := PySem.W.mg_of X G a13
    k_reach_of := k13
    F_changes_of := F14
    b_changes_of := b14
    g_changes_of := PySem.W.mg_of X G a14
    k_changes_of := k14
    F_replaced := F15
    b_replaced := b15
    g_replaced := PySem.W.mg_of X G a15
    k_replaced := k15
    F_wake := F16
    b_wake := b16
    g_wake := PySem.W.mg_of X G a16
    k_wake := k16
    F_woken_once := F17
    g_woken_once := PySem.W.mg_of X G a17
    k_woken_once := k17
    F__law_is_integer := F18
    b__law_is_integer := b18
    g__law_is_integer := PySem.W.mg_of X G a18
    k__law_is_integer := k18
    F__law_numbers := F19
    b__law_numbers := b19
    g__law_numbers := PySem.W.mg_of X G a19
    k__law_numbers := k19
    F__law_is_standing := F20
    b__law_is_standing := b20
    g__law_is_standing := PySem.W.mg_of X G a20
    k__law_is_standing := k20
    F_Beads_total := F21
    b_Beads_total := b21
    F_Beads_greatest := F22
    b_Beads_greatest := b22
    F_check_ring := F23
    b_check_ring := b23
    g_check_ring := PySem.W.mg_of X G a23
    k_check_ring := k23
    F_check_tall := F24
    b_check_tall := b24
    g_check_tall := PySem.W.mg_of X G a24
    k_check_tall := k24
    F_can_lead := F25
    b_can_lead := b25
    g_can_lead := PySem.W.mg_of X G a25
    k_can_lead := k25
    F_strongest_of := F26
    b_strongest_of := b26
    g_strongest_of := PySem.W.mg_of X G a26
    k_strongest_of := k26
    F_sums_before := F27
    b_sums_before := b27
    g_sums_before := PySem.W.mg_of X G a27
    k_sums_before := k27
    F_arc_sums := F28
    b_arc_sums := b28
    g_arc_sums := PySem.W.mg_of X G a28
    k_arc_sums := k28
    F_is_cutting := F29
    b_is_cutting := b29
    g_is_cutting := PySem.W.mg_of X G a29
    k_is_cutting := k29
    F_settled_cut := F30
    b_settled_cut := b30
    g_settled_cut := PySem.W.mg_of X G a30
    k_settled_cut := k30
    F__law_alone := F31
    b__law_alone := b31
    g__law_alone := PySem.W.mg_of X G a31
    k__law_alone := k31
    F__law_handfuls := F32
    b__law_handfuls := b32
    g__law_handfuls := PySem.W.mg_of X G a32
    k__law_handfuls := k32
    F__law_restless := F33
    b__law_restless := b33
    g__law_restless := PySem.W.mg_of X G a33
    k__law_restless := k33
    F__law_woken := F34
    b__law_woken := b34
    g__law_woken := PySem.W.mg_of X G a34
    k__law_woken := k34
    F__law_order := F35
    b__law_order := b35
    g__law_order := PySem.W.mg_of X G a35
    k__law_order := k35
    F__law_rested := F36
    b__law_rested := b36
    g__law_rested := PySem.W.mg_of X G a36
    k__law_rested := k36
    F_reaches := F37
    b_reaches := b37
    g_reaches := PySem.W.mg_of X G a37
    k_reaches := k37
    F_restless := F38
    b_restless := b38
    g_restless := PySem.W.mg_of X G a38
    k_restless := k38
    F_lord_of := F39
    b_lord_of := b39
    g_lord_of := PySem.W.mg_of X G a39
    k_lord_of := k39
    F_lords_of := F40
    b_lords_of := b40
    g_lords_of := PySem.W.mg_of X G a40
    k_lords_of := k40
    F_leaders_of := F41
    b_leaders_of := b41
    g_leaders_of := PySem.W.mg_of X G a41
    k_leaders_of := k41
    F_resting_cut := F42
    b_resting_cut := b42
    g_resting_cut := PySem.W.mg_of X G a42
    k_resting_cut := k42
    F__law_kept := F43
    b__law_kept := b43
    g__law_kept := PySem.W.mg_of X G a43
    k__law_kept := k43
    F_law := F44
    b_law := b44
    F_BadOrder___init__ := F45
    b_BadOrder___init__ := b45
    F_BadBeads___init__ := F46
    b_BadBeads___init__ := b46
    F_BadPlace___init__ := F47
    b_BadPlace___init__ := b47
    F_WrongKind___init__ := F48
    b_WrongKind___init__ := b48
    F_NotTall___init__ := F49
    b_NotTall___init__ := b49
    F_NotAtRest___init__ := F50
    b_NotAtRest___init__ := b50
    n_len := PySem.W.mg_none_of X G z_len
    n_int := PySem.W.mg_none_of X G z_int
    n_range := PySem.W.mg_none_of X G z_range
    n_sum := PySem.W.mg_none_of X G z_sum
    n_list := PySem.W.mg_none_of X G z_list
    n_enumerate := PySem.W.mg_none_of X G z_enumerate
    x_BadOrder := ⟨⟨⟨_, _, _, _, bm_BadOrder, _, _, _, _, _, _, _, _, _, _, xL_BadOrder, rv_BadOrder⟩, xs_BadOrder, xe_BadOrder, xy_BadOrder, xk_BadOrder⟩, ⟨xg_BadOrder, xh_BadOrder, xe_BadOrder, xd_BadOrder⟩, xi_BadOrder, xt_BadOrder, PySem.W.mg_of X G aC_BadOrder, PySem.W.exm_ref xe_BadOrder xd_BadOrder xy_BadOrder xq_BadOrder⟩
    xb_BadOrder := b45
    xn_BadOrder_index := xn_BadOrder_index
    n_tuple := PySem.W.mg_none_of X G z_tuple
    cl_Beads := ⟨pg_Beads, hd_Beads, po_Beads, sa_Beads⟩
    na_Beads_strengths := na_Beads_strengths
    na_Beads_lengths := na_Beads_lengths
    na_Beads_ring := na_Beads_ring
    x_BadBeads := ⟨⟨⟨_, _, _, _, bm_BadBeads, _, _, _, _, _, _, _, _, _, _, xL_BadBeads, rv_BadBeads⟩, xs_BadBeads, xe_BadBeads, xy_BadBeads, xk_BadBeads⟩, ⟨xg_BadBeads, xh_BadBeads, xe_BadBeads, xd_BadBeads⟩, xi_BadBeads, xt_BadBeads, PySem.W.mg_of X G aC_BadBeads, PySem.W.exm_ref xe_BadBeads xd_BadBeads xy_BadBeads xq_BadBeads⟩
    xb_BadBeads := b46
    xn_BadBeads_place := xn_BadBeads_place
    mk_Beads := ⟨mk_Beads, a7, fn_Beads, kc_Beads⟩
    kb_Beads_3_ring := ⟨_, kb_Beads⟩
    m_Beads___len__ := ⟨a8, fn_Beads___len__, k8⟩
    x_BadPlace := ⟨⟨⟨_, _, _, _, bm_BadPlace, _, _, _, _, _, _, _, _, _, _, xL_BadPlace, rv_BadPlace⟩, xs_BadPlace, xe_BadPlace, xy_BadPlace, xk_BadPlace⟩, ⟨xg_BadPlace, xh_BadPlace, xe_BadPlace, xd_BadPlace⟩, xi_BadPlace, xt_BadPlace, PySem.W.mg_of X G aC_BadPlace, PySem.W.exm_ref xe_BadPlace xd_BadPlace xy_BadPlace xq_BadPlace⟩
    xb_BadPlace := b47
    xn_BadPlace_place := xn_BadPlace_place
    n_sorted := PySem.W.mg_none_of X G z_sorted
    n_set := PySem.W.mg_none_of X G z_set
    kf_woken_once_2_ring := ⟨_, kf_woken_once⟩
    n_isinstance := PySem.W.mg_none_of X G z_isinstance
    is_Beads := ⟨⟨pg_Beads, hd_Beads, po_Beads, sa_Beads⟩, cc_Beads, sp_, tk_, mr_Beads⟩
    n_bool := PySem.W.mg_none_of X G z_bool
    m_Beads_total := ⟨a21, fn_Beads_total, k21⟩
    n_max := PySem.W.mg_none_of X G z_max
    m_Beads_greatest := ⟨a22, fn_Beads_greatest, k22⟩
    x_WrongKind := ⟨⟨⟨_, _, _, _, bm_WrongKind, _, _, _, _, _, _, _, _, _, _, xL_WrongKind, rv_WrongKind⟩, xs_WrongKind, xe_WrongKind, xy_WrongKind, xk_WrongKind⟩, ⟨xg_WrongKind, xh_WrongKind, xe_WrongKind, xd_WrongKind⟩, xi_WrongKind, xt_WrongKind, PySem.W.mg_of X G aC_WrongKind, PySem.W.exm_ref xe_WrongKind xd_WrongKind xy_WrongKind xq_WrongKind⟩
    xb_WrongKind := b48
    xn_WrongKind_ring := xn_WrongKind_ring
    x_NotTall := ⟨⟨⟨_, _, _, _, bm_NotTall, _, _, _, _, _, _, _, _, _, _, xL_NotTall, rv_NotTall⟩, xs_NotTall, xe_NotTall, xy_NotTall, xk_NotTall⟩, ⟨xg_NotTall, xh_NotTall, xe_NotTall, xd_NotTall⟩, xi_NotTall, xt_NotTall, PySem.W.mg_of X G aC_NotTall, PySem.W.exm_ref xe_NotTall xd_NotTall xy_NotTall xq_NotTall⟩
    xb_NotTall := b49
    xn_NotTall_greatest := xn_NotTall_greatest
    xn_NotTall_total := xn_NotTall_total
    n_min := PySem.W.mg_none_of X G z_min
    kbd_Beads_3_1 := kbd_Beads_3_1
    x_NotAtRest := ⟨⟨⟨_, _, _, _, bm_NotAtRest, _, _, _, _, _, _, _, _, _, _, xL_NotAtRest, rv_NotAtRest⟩, xs_NotAtRest, xe_NotAtRest, xy_NotAtRest, xk_NotAtRest⟩, ⟨xg_NotAtRest, xh_NotAtRest, xe_NotAtRest, xd_NotAtRest⟩, xi_NotAtRest, xt_NotAtRest, PySem.W.mg_of X G aC_NotAtRest, PySem.W.exm_ref xe_NotAtRest xd_NotAtRest xy_NotAtRest xq_NotAtRest⟩
    xb_NotAtRest := b50
    xn_NotAtRest_place := xn_NotAtRest_place
    n_reversed := PySem.W.mg_none_of X G z_reversed
    g_Beads := PySem.W.mg_of X G aC_Beads
  }
  exact ⟨_, fun s v => .of_eq rfl, fun base _ _ => law_end (ok_law T) law_true⟩
end DL
open PySem PySem.W PyProof.Rows
set_option maxHeartbeats 0 in
theorem PySem.Challenge.cw_retinue_k48_whole_last_waker_leads_holds : PySem.Challenge.rw_retinue_k48_whole_last_waker_leads.Holds := by
  w_on; o_law; k_head; (case hw => w_witness2)
  k_fill
  refine L2.walk_of (l := PySem.Challenge.rw_retinue_k48_whole_last_waker_leads) (n := 63) (k := 11) (x := "script") (CX := fun w => L2N.CX PySem.Challenge.pw_retinue_k48_whole_last_waker_leads w) (sp := fun w => DL.spLaw _) rfl (by decide) rfl ⟨rfl, by decide, by decide⟩ (fun w h Y => PySem.W.kIn_of Y) ?F (fun _ _ a ns hl _ hS => ⟨a, ns, rfl, hS, hl, fun _ => rfl⟩) (fun _ _ _ _ _ h => DL.cx_end h)
  case F =>
    intro w mg fa h KX G hmg
    refine' DL.all_mk KX G hmg ?aC_BadOrder ?aC_Beads ?aC_BadBeads ?aC_BadPlace ?aC_WrongKind ?aC_NotTall ?aC_NotAtRest ?a0 ?l0 ?co0 ?k0 ?a1 ?l1 ?co1 ?k1 ?a2 ?l2 ?co2 ?k2 ?a3 ?l3 ?co3 ?k3 ?a4 ?l4 ?co4 ?k4 ?a5 ?l5 ?co5 ?k5 ?a6 ?l6 ?co6 ?k6 ?a7 ?l7 ?co7 ?k7 ?lT7 ?w7_ring ?a8 ?l8 ?co8 ?k8 ?a9 ?l9 ?co9 ?k9 ?a10 ?l10 ?co10 ?k10 ?a11 ?l11 ?co11 ?k11 ?a12 ?l12 ?co12 ?k12 ?a13 ?l13 ?co13 ?k13 ?a14 ?l14 ?co14 ?k14 ?a15 ?l15 ?co15 ?k15 ?a16 ?l16 ?co16 ?k16 ?a17 ?l17 ?co17 ?k17 ?w17_ring ?a18 ?l18 ?co18 ?k18 ?a19 ?l19 ?co19 ?k19 ?a20 ?l20 ?co20 ?k20 ?a21 ?l21 ?co21 ?k21 ?a22 ?l22 ?co22 ?k22 ?a23 ?l23 ?co23 ?k23 ?a24 ?l24 ?co24 ?k24 ?a25 ?l25 ?co25 ?k25 ?a26 ?l26 ?co26 ?k26 ?a27 ?l27 ?co27 ?k27 ?a28 ?l28 ?co28 ?k28 ?a29 ?l29 ?co29 ?k29 ?a30 ?l30 ?co30 ?k30 ?a31 ?l31 ?co31 ?k31 ?a32 ?l32 ?co32 ?k32 ?a33 ?l33 ?co33 ?k33 ?a34 ?l34 ?co34 ?k34 ?a35 ?l35 ?co35 ?k35 ?a36 ?l36 ?co36 ?k36 ?a37 ?l37 ?co37 ?k37 ?a38 ?l38 ?co38 ?k38 ?a39 ?l39 ?co39 ?k39 ?a40 ?l40 ?co40 ?k40 ?a41 ?l41 ?co41 ?k41 ?a42 ?l42 ?co42 ?k42 ?a43 ?l43 ?co43 ?k43 ?a44 ?l44 ?co44 ?k44 ?a45 ?l45 ?co45 ?k45 ?a46 ?l46 ?co46 ?k46 ?a47 ?l47 ?co47 ?k47 ?a48 ?l48 ?co48 ?k48 ?a49 ?l49 ?co49 ?k49 ?a50 ?l50 ?co50 ?k50 ?z_bool ?z_enumerate ?z_int ?z_isinstance ?z_len ?z_list ?z_max ?z_min ?z_range ?z_reversed ?z_set ?z_sorted ?z_sum ?z_tuple ?pg_Beads ?hd_Beads ?po_Beads ?sa_Beads ?mk_Beads ?kc_Beads ?fn_Beads ?cc_Beads ?mr_Beads ?sp_ ?tk_ ?xn_BadOrder_index ?na_Beads_strengths ?na_Beads_lengths ?na_Beads_ring ?xn_BadBeads_place ?fn_Beads___len__ ?xn_BadPlace_place ?fn_Beads_total ?fn_Beads_greatest ?xn_WrongKind_ring ?xn_NotTall_greatest ?xn_NotTall_total ?xn_NotAtRest_place ?xL_BadOrder ?rv_BadOrder ?xs_BadOrder ?xg_BadOrder ?xh_BadOrder ?xi_BadOrder ?xt_BadOrder ?xk_BadOrder ?xe_BadOrder ?xy_BadOrder ?xd_BadOrder ?xc_BadOrder ?xq_BadOrder ?xL_BadBeads ?rv_BadBeads ?xs_BadBeads ?xg_BadBeads ?xh_BadBeads ?xi_BadBeads ?xt_BadBeads ?xk_BadBeads ?xe_BadBeads ?xy_BadBeads ?xd_BadBeads ?xc_BadBeads ?xq_BadBeads ?xL_BadPlace ?rv_BadPlace ?xs_BadPlace ?xg_BadPlace ?xh_BadPlace ?xi_BadPlace ?xt_BadPlace ?xk_BadPlace ?xe_BadPlace ?xy_BadPlace ?xd_BadPlace ?xc_BadPlace ?xq_BadPlace ?xL_WrongKind ?rv_WrongKind ?xs_WrongKind ?xg_WrongKind ?xh_WrongKind ?xi_WrongKind ?xt_WrongKind ?xk_WrongKind ?xe_WrongKind ?xy_WrongKind ?xd_WrongKind ?xc_WrongKind ?xq_WrongKind ?xL_NotTall ?rv_NotTall ?xs_NotTall ?xg_NotTall ?xh_NotTall ?xi_NotTall ?xt_NotTall ?xk_NotTall ?xe_NotTall ?xy_NotTall ?xd_NotTall ?xc_NotTall ?xq_NotTall ?xL_NotAtRest ?rv_NotAtRest ?xs_NotAtRest ?xg_NotAtRest ?xh_NotAtRest ?xi_NotAtRest ?xt_NotAtRest ?xk_NotAtRest ?xe_NotAtRest ?xy_NotAtRest ?xd_NotAtRest ?xc_NotAtRest ?xq_NotAtRest
    (case aC_BadOrder => k_is)
    (case aC_Beads => k_is)
    (case aC_BadBeads => k_is)
    (case aC_BadPlace => k_is)
    (case aC_WrongKind => k_is)
    (case aC_NotTall => k_is)
    (case aC_NotAtRest => k_is)
    (case a0 => k_is)
    (case l0 => k_is)
    (case co0 => k_is)
    (case k0 => k_is)
    (case a1 => k_is)
    (case l1 => k_is)
    (case co1 => k_is)
    (case k1 => k_is)
    (case a2 => k_is)
    (case l2 => k_is)
    (case co2 => k_is)
    (case k2 => k_is)
    (case a3 => k_is)
    (case l3 => k_is)
    (case co3 => k_is)
    (case k3 => k_is)
    (case a4 => k_is)
    (case l4 => k_is)
    (case co4 => k_is)
    (case k4 => k_is)
    (case a5 => k_is)
    (case l5 => k_is)
    (case co5 => k_is)
    (case k5 => k_is)
    (case a6 => k_is)
    (case l6 => k_is)
    (case co6 => k_is)
    (case k6 => k_is)
    (case a7 => k_is)
    (case l7 => k_is)
    (case co7 => k_is)
    (case k7 => k_is)
    (case lT7 => k_is)
    (case w7_ring => k_is)
    (case a8 => k_is)
    (case l8 => k_is)
    (case co8 => k_is)
    (case k8 => k_is)
    (case a9 => k_is)
    (case l9 => k_is)
    (case co9 => k_is)
    (case k9 => k_is)
    (case a10 => k_is)
    (case l10 => k_is)
    (case co10 => k_is)
    (case k10 => k_is)
    (case a11 => k_is)
    (case l11 => k_is)
    (case co11 => k_is)
    (case k11 => k_is)
    (case a12 => k_is)
    (case l12 => k_is)
    (case co12 => k_is)
    (case k12 => k_is)
    (case a13 => k_is)
    (case l13 => k_is)
    (case co13 => k_is)
    (case k13 => k_is)
    (case a14 => k_is)
    (case l14 => k_is)
    (case co14 => k_is)
    (case k14 => k_is)
    (case a15 => k_is)
    (case l15 => k_is)
    (case co15 => k_is)
    (case k15 => k_is)
    (case a16 => k_is)
    (case l16 => k_is)
    (case co16 => k_is)
    (case k16 => k_is)
    (case a17 => k_is)
    (case l17 => k_is)
    (case co17 => k_is)
    (case k17 => k_is)
    (case w17_ring => k_is)
    (case a18 => k_is)
    (case l18 => k_is)
    (case co18 => k_is)
    (case k18 => k_is)
    (case a19 => k_is)
    (case l19 => k_is)
    (case co19 => k_is)
    (case k19 => k_is)
    (case a20 => k_is)
    (case l20 => k_is)
    (case co20 => k_is)
    (case k20 => k_is)
    (case a21 => k_is)
    (case l21 => k_is)
    (case co21 => k_is)
    (case k21 => k_is)
    (case a22 => k_is)
    (case l22 => k_is)
    (case co22 => k_is)
    (case k22 => k_is)
    (case a23 => k_is)
    (case l23 => k_is)
    (case co23 => k_is)
    (case k23 => k_is)
    (case a24 => k_is)
    (case l24 => k_is)
    (case co24 => k_is)
    (case k24 => k_is)
    (case a25 => k_is)
    (case l25 => k_is)
    (case co25 => k_is)
    (case k25 => k_is)
    (case a26 => k_is)
    (case l26 => k_is)
    (case co26 => k_is)
    (case k26 => k_is)
    (case a27 => k_is)
    (case l27 => k_is)
    (case co27 => k_is)
    (case k27 => k_is)
    (case a28 => k_is)
    (case l28 => k_is)
    (case co28 => k_is)
    (case k28 => k_is)
    (case a29 => k_is)
    (case l29 => k_is)
    (case co29 => k_is)
    (case k29 => k_is)
    (case a30 => k_is)
    (case l30 => k_is)
    (case co30 => k_is)
    (case k30 => k_is)
    (case a31 => k_is)
    (case l31 => k_is)
    (case co31 => k_is)
    (case k31 => k_is)
    (case a32 => k_is)
    (case l32 => k_is)
    (case co32 => k_is)
    (case k32 => k_is)
    (case a33 => k_is)
    (case l33 => k_is)
    (case co33 => k_is)
    (case k33 => k_is)
    (case a34 => k_is)
    (case l34 => k_is)
    (case co34 => k_is)
    (case k34 => k_is)
    (case a35 => k_is)
    (case l35 => k_is)
    (case co35 => k_is)
    (case k35 => k_is)
    (case a36 => k_is)
    (case l36 => k_is)
    (case co36 => k_is)
    (case k36 => k_is)
    (case a37 => k_is)
    (case l37 => k_is)
    (case co37 => k_is)
    (case k37 => k_is)
    (case a38 => k_is)
    (case l38 => k_is)
    (case co38 => k_is)
    (case k38 => k_is)
    (case a39 => k_is)
    (case l39 => k_is)
    (case co39 => k_is)
    (case k39 => k_is)
    (case a40 => k_is)
    (case l40 => k_is)
    (case co40 => k_is)
    (case k40 => k_is)
    (case a41 => k_is)
    (case l41 => k_is)
    (case co41 => k_is)
    (case k41 => k_is)
    (case a42 => k_is)
    (case l42 => k_is)
    (case co42 => k_is)
    (case k42 => k_is)
    (case a43 => k_is)
    (case l43 => k_is)
    (case co43 => k_is)
    (case k43 => k_is)
    (case a44 => k_is)
    (case l44 => k_is)
    (case co44 => k_is)
    (case k44 => k_is)
    (case a45 => k_is)
    (case l45 => k_is)
    (case co45 => k_is)
    (case k45 => k_is)
    (case a46 => k_is)
    (case l46 => k_is)
    (case co46 => k_is)
    (case k46 => k_is)
    (case a47 => k_is)
    (case l47 => k_is)
    (case co47 => k_is)
    (case k47 => k_is)
    (case a48 => k_is)
    (case l48 => k_is)
    (case co48 => k_is)
    (case k48 => k_is)
    (case a49 => k_is)
    (case l49 => k_is)
    (case co49 => k_is)
    (case k49 => k_is)
    (case a50 => k_is)
    (case l50 => k_is)
    (case co50 => k_is)
    (case k50 => k_is)
    (case z_bool => k_is)
    (case z_enumerate => k_is)
    (case z_int => k_is)
    (case z_isinstance => k_is)
    (case z_len => k_is)
    (case z_list => k_is)
    (case z_max => k_is)
    (case z_min => k_is)
    (case z_range => k_is)
    (case z_reversed => k_is)
    (case z_set => k_is)
    (case z_sorted => k_is)
    (case z_sum => k_is)
    (case z_tuple => k_is)
    (case pg_Beads => k_is)
    (case hd_Beads => k_is)
    (case po_Beads => k_is)
    (case sa_Beads => k_is)
    (case mk_Beads => k_is)
    (case kc_Beads => k_is)
    (case fn_Beads => k_is)
    (case cc_Beads => k_is)
    (case mr_Beads => k_is)
    (case sp_ => k_is)
    (case tk_ => k_is)
    (case xn_BadOrder_index => k_is)
    (case na_Beads_strengths => k_is)
    (case na_Beads_lengths => k_is)
    (case na_Beads_ring => k_is)
    (case xn_BadBeads_place => k_is)
    (case fn_Beads___len__ => k_is)
    (case xn_BadPlace_place => k_is)
    (case fn_Beads_total => k_is)
    (case fn_Beads_greatest => k_is)
    (case xn_WrongKind_ring => k_is)
    (case xn_NotTall_greatest => k_is)
    (case xn_NotTall_total => k_is)
    (case xn_NotAtRest_place => k_is)
    (case xL_BadOrder => k_is)
    (case rv_BadOrder => decide +kernel)
    (case xs_BadOrder => k_is)
    (case xg_BadOrder => k_is)
    (case xh_BadOrder => k_is)
    (case xi_BadOrder => k_is)
    (case xt_BadOrder => k_is)
    (case xk_BadOrder => k_is)
    (case xe_BadOrder => k_is)
    (case xy_BadOrder => k_is)
    (case xd_BadOrder => k_is)
    (case xc_BadOrder => k_is)
    (case xq_BadOrder => first | rfl | k_is)
    (case xL_BadBeads => k_is)
    (case rv_BadBeads => decide +kernel)
    (case xs_BadBeads => k_is)
    (case xg_BadBeads => k_is)
    (case xh_BadBeads => k_is)
    (case xi_BadBeads => k_is)
    (case xt_BadBeads => k_is)
    (case xk_BadBeads => k_is)
    (case xe_BadBeads => k_is)
    (case xy_BadBeads => k_is)
    (case xd_BadBeads => k_is)
    (case xc_BadBeads => k_is)
    (case xq_BadBeads => first | rfl | k_is)
    (case xL_BadPlace => k_is)
    (case rv_BadPlace => decide +kernel)
    (case xs_BadPlace => k_is)
    (case xg_BadPlace => k_is)
    (case xh_BadPlace => k_is)
    (case xi_BadPlace => k_is)
    (case xt_BadPlace => k_is)
    (case xk_BadPlace => k_is)
    (case xe_BadPlace => k_is)
    (case xy_BadPlace => k_is)
    (case xd_BadPlace => k_is)
    (case xc_BadPlace => k_is)
    (case xq_BadPlace => first | rfl | k_is)
    (case xL_WrongKind => k_is)
    (case rv_WrongKind => decide +kernel)
    (case xs_WrongKind => k_is)
    (case xg_WrongKind => k_is)
    (case xh_WrongKind => k_is)
    (case xi_WrongKind => k_is)
    (case xt_WrongKind => k_is)
    (case xk_WrongKind => k_is)
    (case xe_WrongKind => k_is)
    (case xy_WrongKind => k_is)
    (case xd_WrongKind => k_is)
    (case xc_WrongKind => k_is)
    (case xq_WrongKind => first | rfl | k_is)
    (case xL_NotTall => k_is)
    (case rv_NotTall => decide +kernel)
    (case xs_NotTall => k_is)
    (case xg_NotTall => k_is)
    (case xh_NotTall => k_is)
    (case xi_NotTall => k_is)
    (case xt_NotTall => k_is)
    (case xk_NotTall => k_is)
    (case xe_NotTall => k_is)
    (case xy_NotTall => k_is)
    (case xd_NotTall => k_is)
    (case xc_NotTall => k_is)
    (case xq_NotTall => first | rfl | k_is)
    (case xL_NotAtRest => k_is)
    (case rv_NotAtRest => decide +kernel)
    (case xs_NotAtRest => k_is)
    (case xg_NotAtRest => k_is)
    (case xh_NotAtRest => k_is)
    (case xi_NotAtRest => k_is)
    (case xt_NotAtRest => k_is)
    (case xk_NotAtRest => k_is)
    (case xe_NotAtRest => k_is)
    (case xy_NotAtRest => k_is)
    (case xd_NotAtRest => k_is)
    (case xc_NotAtRest => k_is)
    (case xq_NotAtRest => first | rfl | k_is)

