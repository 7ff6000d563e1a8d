import PyProof.Rows.All
import Wide.All
import OpenK.AllK
import Wide.FinOn
import HandS.ForMost
import HandS.ForExc
import HandS.HotCalls
import HandS.Wide
import HandS.CallSlots
import HandS.IsInst
import HandS.TupAny
import HandS.TupMul
import HandS.Conv
import HandS.Small
import HandS.ExcInit
import HandS.ExcField
import HandS.ExcInitHot
import HandS.MakeKw
import HandS.MakeKwOnly
import HandS.SortInts
import HandS.NoneIn
import KE.KTupSum
import KE.DataMinMax
import HandS.Strs
import HandS.SetFor
import PyProof.ListNew
import PyProof.Rows.SetFrom
import HandS.ExcIs
import KE.KExcIs
import HandS.Iter
import HandS.Rev
import HandS.Dict
import HandS.More
import KE.GoesEnum
import HandS.Set
import HandS.TupLe
import KE.DatumOrd
import KE.KFind
import HandS.OwnIter
import HandS.IterVal
import HandS.Deep
import HandS.ExcValue
import KE.KOpsOwn
import KE.KIndexOf
import PySem.Challenge.RW_retinue_k49_whole_mark_ends
set_option Elab.async false
set_option linter.all false
set_option maxRecDepth 100000
set_option maxHeartbeats 4000000
set_option autoImplicit false
namespace DL
open PySem PySem.Spec PyProof.Rows L2

/-! ### deep data, results -/
inductive D where
  | non | bl (b : Bool) | int (i : Int) | str (x : Str)
  | lst (xs : List D) | tup (xs : List D) | ftp (xs : List D)
  | scr (xs : List D)
  | obj (C : Str) (fs : List (Str × D))

structure Ex where
  cls : Str
  args : List (Str × D)

inductive M (α : Type) where
  | ok (x : α) | er (x : Ex) | no

def mb {α β : Type} (m : M α) (f : α → M β) : M β := match m with
  | .ok x => f x
  | .er e => .er e
  | .no => .no
@[simp] theorem mb_ok {α β : Type} (x : α) (f : α → M β) : mb (.ok x) f = f x := rfl
@[simp] theorem mb_er {α β : Type} (x : Ex) (f : α → M β) : mb (.er x) f = .er x := rfl
@[simp] theorem mb_no {α β : Type} (f : α → M β) : mb .no f = .no := rfl
theorem mb_assoc {α β γ : Type} (m : M α) (f : α → M β) (g : β → M γ) : mb (mb m f) g = mb m fun x => mb (f x) g := by
  cases m <;> rfl
theorem mb_ite {α β : Type} (c : Prop) [Decidable c] (a b : M α) (f : α → M β) : mb (if c then a else b) f = if c then mb a f else mb b f := by
  split <;> rfl

/-! ### denotation -/
section
variable (K : PySem.W.Frag) (ca : Str → Addr)
mutual
inductive Den : Hp → V → D → Prop where
  | non {H : Hp} : Den H .non .non
  | bl {H : Hp} (b : Bool) : Den H (.bl b) (.bl b)
  | int {H : Hp} (i : Int) : Den H (.int i) (.int i)
  | str {H : Hp} (x : Str) : Den H (.str x) (.str x)
  | lst {H : Hp} {a : Addr} {vs : List V} {ds : List D} : H a = some (.lst vs) → DenL H vs ds → Den H (.ref a) (.lst ds)
  | scr {H : Hp} {a : Addr} {vs : List V} {ds : List D} : SqL K H a vs → DenL H vs ds → Den H (.ref a) (.scr ds)
  | tup {H : Hp} {a : Addr} {vs : List V} {ds : List D} : SqT K H a vs → DenL H vs ds → Den H (.ref a) (.tup ds)
  | ftp {H : Hp} {a : Addr} {o : Obj} {vs : List V} {ds : List D} : H a = some (.frz o (.tup vs)) → o.cls = .type "tuple" → o.dict = none → DenL H vs ds → Den H (.ref a) (.ftp ds)
  | obj {H : Hp} {a : Addr} {C : Str} {dx : Addr} {fs : List (Str × V)} {gs : List (Str × D)} : H a = some (.ins (ca C) dx fs) → DenF H fs gs → Den H (.ref a) (.obj C gs)
inductive DenL : Hp → List V → List D → Prop where
  | nil {H : Hp} : DenL H [] []
  | cons {H : Hp} {v : V} {d : D} {vs : List V} {ds : List D} : Den H v d → DenL H vs ds → DenL H (v :: vs) (d :: ds)
inductive DenF : Hp → List (Str × V) → List (Str × D) → Prop where
  | nil {H : Hp} : DenF H [] []
  | cons {H : Hp} {f : Str} {v : V} {d : D} {vs : List (Str × V)} {ds : List (Str × D)} : Den H v d → DenF H vs ds → DenF H ((f, v) :: vs) ((f, d) :: ds)
end
end

theorem same_seqT {K : PySem.W.Frag} {H H' : Hp} {a : Addr} {xs : List V} (e : Same H H') (h : SqT K H a xs) : SqT K H' a xs := by
  rcases h with (h | ⟨o, h⟩) | h
  · exact .inl (.inl (e _ _ h))
  · exact .inl (.inr ⟨o, e _ _ h⟩)
  · exact .inr h

section
variable {K : PySem.W.Frag} {ca : Str → Addr} {H H' : Hp}
mutual
theorem Den.mono (e : Same H H') : ∀ {v : V} {d : D}, Den K ca H v d → Den K ca H' v d
  | _, _, .non => .non
  | _, _, .bl b => .bl b
  | _, _, .int i => .int i
  | _, _, .str x => .str x
  | _, _, .lst h t => .lst (e _ _ h) (DenL.mono e t)
  | _, _, .scr h t => .scr (e.seq h) (DenL.mono e t)
  | _, _, .tup h t => .tup (same_seqT e h) (DenL.mono e t)
  | _, _, .ftp h c d t => .ftp (e _ _ h) c d (DenL.mono e t)
  | _, _, .obj h t => .obj (e _ _ h) (DenF.mono e t)
theorem DenL.mono (e : Same H H') : ∀ {v : List V} {d : List D}, DenL K ca H v d → DenL K ca H' v d
  | _, _, .nil => .nil
  | _, _, .cons h t => .cons (Den.mono e h) (DenL.mono e t)
theorem DenF.mono (e : Same H H') : ∀ {v : List (Str × V)} {d : List (Str × D)}, DenF K ca H v d → DenF K ca H' v d
  | _, _, .nil => .nil
  | _, _, .cons h t => .cons (Den.mono e h) (DenF.mono e t)
end
theorem DenL.length : ∀ {vs : List V} {ds : List D}, DenL K ca H vs ds → vs.length = ds.length
  | _, _, .nil => rfl
  | _, _, .cons _ t => congrArg (· + 1) (DenL.length t)
theorem DenL.append : ∀ {vs ws : List V} {ds es : List D}, DenL K ca H vs ds → DenL K ca H ws es → DenL K ca H (vs ++ ws) (ds ++ es)
  | _, _, _, _, .nil, s => s
  | _, _, _, _, .cons h t, s => .cons h (DenL.append t s)
theorem DenL.get : ∀ {vs : List V} {ds : List D} {i : Nat} {d : D}, DenL K ca H vs ds → ds[i]? = some d → ∃ v, vs[i]? = some v ∧ Den K ca H v d
  | _, _, _, _, .nil, e => by simp at e
  | _, _, 0, _, .cons h _, e => by simp at e; subst e; exact ⟨_, rfl, h⟩
  | _, _, i + 1, d, .cons _ t, e => by
    obtain ⟨v, h1, h2⟩ := DenL.get (i := i) (d := d) t (by simpa using e)
    exact ⟨v, by simpa using h1, h2⟩
theorem DenL.set {v : V} {d : D} (h : Den K ca H v d) : ∀ {vs : List V} {ds : List D} (i : Nat), DenL K ca H vs ds → DenL K ca H (vs.set i v) (ds.set i d)
  | _, _, _, .nil => .nil
  | _, _, 0, .cons _ t => .cons h t
  | _, _, i + 1, .cons q t => .cons q (DenL.set h i t)
theorem DenL.take : ∀ {vs : List V} {ds : List D} (n : Nat), DenL K ca H vs ds → DenL K ca H (vs.take n) (ds.take n)
  | _, _, 0, _ => .nil
  | _, _, _ + 1, .nil => .nil
  | _, _, n + 1, .cons h t => .cons h (DenL.take n t)
theorem DenL.drop : ∀ {vs : List V} {ds : List D} (n : Nat), DenL K ca H vs ds → DenL K ca H (vs.drop n) (ds.drop n)
  | _, _, 0, h => h
  | _, _, _ + 1, .nil => .nil
  | _, _, n + 1, .cons _ t => DenL.drop n t
theorem DenF.lookup {f : Str} {d : D} : ∀ {vs : List (Str × V)} {ds : List (Str × D)}, DenF K ca H vs ds → ds.lookup f = some d → ∃ v, vs.lookup f = some v ∧ Den K ca H v d
  | _, _, .nil, e => by cases e
  | _, _, .cons (f := g) h t, e => by
    simp only [List.lookup] at e ⊢
    cases q : (f == g) with
    | true => rw [q] at e; cases e; exact ⟨_, rfl, h⟩
    | false => rw [q] at e; exact DenF.lookup t e
theorem DenL.ints : ∀ {ns : List Int} {vs : List V}, DenL K ca H vs (ns.map D.int) → vs = ns.map V.int
  | [], _, h => by cases h; rfl
  | n :: ns, _, h => by
    cases h with
    | cons h t =>
      cases h
      rw [DenL.ints t]
      rfl
theorem DenL.of_ints : ∀ (ns : List Int), DenL K ca H (ns.map V.int) (ns.map D.int)
  | [] => .nil
  | n :: ns => .cons (.int n) (DenL.of_ints ns)
theorem DenL.bls : ∀ {ns : List Bool} {vs : List V}, DenL K ca H vs (ns.map D.bl) → vs = ns.map V.bl
  | [], _, h => by cases h; rfl
  | n :: ns, _, h => by
    cases h with
    | cons h t =>
      cases h
      rw [DenL.bls t]
      rfl
end

/-! ### growing heaps -/
structure Grow (G H G' H' : Hp) : Prop where
  g : Same G G'
  h : Same H H'
  gh : Same G' H'
  n : ∀ p, H p ≠ none → G' p = G p
theorem Grow.refl {G H : Hp} (e : Same G H) : Grow G H G H := ⟨Same.refl _, Same.refl _, e, fun _ _ => rfl⟩
theorem Grow.trans {G H G1 H1 G2 H2 : Hp} (a : Grow G H G1 H1) (b : Grow G1 H1 G2 H2) : Grow G H G2 H2 :=
  ⟨a.g.trans b.g, a.h.trans b.h, b.gh, fun p hp => (b.n p (fun z => by
    cases q : H p with
    | none => exact hp q
    | some o => rw [a.h p o q] at z; cases z)).trans (a.n p hp)⟩
theorem same_upd {H : Hp} {p : Addr} {o : HO} (h : H p = none) : Same H (upd H p o) := fun b x e => by
  rw [upd_ne (ne_of_none e h)]
  exact e
theorem Grow.alloc {G H : Hp} {p : Addr} {o : HO} (e : Same G H) (h : H p = none) : Grow G H (upd G p o) (upd H p o) := by
  have hg : G p = none := Same.free e h
  refine ⟨same_upd hg, same_upd h, fun b u q => ?_, fun b hb => ?_⟩
  · by_cases z : b = p
    · subst z; rw [upd_same] at q ⊢; exact q
    · rw [upd_ne z] at q ⊢; exact e _ _ q
  · exact upd_ne fun z => hb (z ▸ h)
theorem Grow.allocO {G H : Hp} {p : Addr} {o : HO} (e : Same G H) (h : H p = none) : Grow G H G (upd H p o) :=
  ⟨Same.refl _, same_upd h, e.trans (same_upd h), fun _ _ => rfl⟩

/-! ### slots -/
inductive Sl where
  | un | fr (d : D) | ow (ds : List D)
  | xc (a : Addr) (d : Option Addr) (fs : List (Str × D))
  | ln (ds : List D)
  | nw (a : Addr) (C : Str) (fs : List (Str × D))
  | dk (kvs : List (Int × V))
  | op (o : Option (List D)) (d : D)
section
variable (K : PySem.W.Frag) (ca : Str → Addr)
structure Bs where
  G0 : Hp
  H0 : Hp
def SlOk (B : Bs) (G H : Hp) (own : Addr → Option Nat) (σi : Option (Option V)) (i : Nat) : Sl → Prop
  | .un => True
  | .fr d => ∃ v, σi = some (some v) ∧ Den K ca G v d
  | .ow ds => ∃ p vs, σi = some (some (.ref p)) ∧ own p = some i ∧ H p = some (.lst vs) ∧ DenL K ca G vs ds
  | .nw p C fs => σi = some (some (.ref p)) ∧ own p = some i ∧ ∃ dx vs, H p = some (.ins (ca C) dx vs) ∧ DenF K ca G vs fs
  | .xc a d fs => σi = some (some (.ref a)) ∧ (fs = [] ∨ ∃ dd vs, d = some dd ∧ H dd = some (.xd vs) ∧ DenF K ca G vs fs)
  | .ln ds => ∃ p vs, σi = some (some (.ref p)) ∧ B.H0 p = some (.lst vs) ∧ DenL K ca G vs ds
  | .dk kvs => ∃ p, σi = some (some (.ref p)) ∧ own p = some i ∧ H p = some (.dK (kvs.map fun kv => (Sum.inl kv.1, kv.2)))
  | .op o d => ∃ t w u, σi = some (some (.ref t)) ∧ SqT K G t [w, u] ∧ Den K ca G u d ∧ ∀ ds, o = some ds → ∃ p vs, w = .ref p ∧ own p = some i ∧ H p = some (.lst vs) ∧ DenL K ca G vs ds
structure Ok (B : Bs) (G H : Hp) (own : Addr → Option Nat) (σ : L2.St) (S : List Sl) : Prop where
  ln : S.length ≤ σ.length
  gh : Same G H
  g0 : Same B.G0 G
  h0 : Same B.H0 H
  gn : ∀ p, B.H0 p ≠ none → G p = B.G0 p
  ow : ∀ p i, own p = some i → B.H0 p = none ∧ G p = none ∧ H p ≠ none
  sl : ∀ i s, S[i]? = some s → SlOk K ca B G H own σ[i]? i s
end
section
variable {K : PySem.W.Frag} {ca : Str → Addr} {B : Bs} {G H G' H' : Hp} {own : Addr → Option Nat} {σ : L2.St} {S : List Sl}
theorem Ok.grow (k : Ok K ca B G H own σ S) (g : Grow G H G' H') : Ok K ca B G' H' own σ S := by
  refine ⟨k.ln, g.gh, k.g0.trans g.g, k.h0.trans g.h, fun p hp => ?_, fun p i e => ?_, fun i s e => ?_⟩
  · have hH : H p ≠ none := fun z => by
      cases q : B.H0 p with
      | none => exact hp q
      | some o => rw [k.h0 p o q] at z; cases z
    exact (g.n p hH).trans (k.gn p hp)
  · obtain ⟨a, b, c⟩ := k.ow p i e
    refine ⟨a, (g.n p c).trans b, fun z => ?_⟩
    cases q : H p with
    | none => exact c q
    | some o => rw [g.h p o q] at z; cases z
  · have q := k.sl i s e
    cases s with
    | un => trivial
    | fr d => obtain ⟨v, h1, h2⟩ := q; exact ⟨v, h1, h2.mono g.g⟩
    | ln ds => obtain ⟨p, vs, h1, h2, h3⟩ := q; exact ⟨p, vs, h1, h2, h3.mono g.g⟩
    | ow ds => obtain ⟨p, vs, h1, h2, h3, h4⟩ := q; exact ⟨p, vs, h1, h2, g.h _ _ h3, h4.mono g.g⟩
    | nw p C fs => obtain ⟨h1, h2, dx, vs, h3, h4⟩ := q; exact ⟨h1, h2, dx, vs, g.h _ _ h3, h4.mono g.g⟩
    | dk kvs => obtain ⟨p, h1, h2, h3⟩ := q; exact ⟨p, h1, h2, g.h _ _ h3⟩
    | op o d =>
      obtain ⟨t, w, u, h1, h2, h3, h4⟩ := q
      refine ⟨t, w, u, h1, same_seqT g.g h2, h3.mono g.g, fun ds e => ?_⟩
      obtain ⟨p, vs, e1, e2, e3, e4⟩ := h4 ds e
      exact ⟨p, vs, e1, e2, g.h _ _ e3, e4.mono g.g⟩
    | xc a d fs =>
      obtain ⟨h1, h2⟩ := q
      rcases h2 with h2 | ⟨dd, vs, h2, h3, h4⟩
      · exact ⟨h1, .inl h2⟩
      · exact ⟨h1, .inr ⟨dd, vs, h2, g.h _ _ h3, h4.mono g.g⟩⟩
theorem Ok.base (k : Ok K ca B G H own σ S) : Grow B.G0 B.H0 G H := ⟨k.g0, k.h0, k.gh, k.gn⟩
/-- a slot is stored, its value frozen -/
theorem Ok.setF {i : Nat} {v : V} {d : D} (k : Ok K ca B G H own σ S) (h : Den K ca G v d) : Ok K ca B G H own (σ.set i (some v)) (S.set i (.fr d)) := by
  refine ⟨by simpa using k.ln, k.gh, k.g0, k.h0, k.gn, k.ow, fun j s e => ?_⟩
  by_cases hj : j = i
  · subst hj
    have hl : j < S.length := by
      by_cases hl : j < S.length
      · exact hl
      · rw [List.getElem?_eq_none (by simpa using hl)] at e; cases e
    rw [List.getElem?_set_self hl] at e
    cases e
    exact ⟨v, List.getElem?_set_self (Nat.lt_of_lt_of_le hl k.ln), h⟩
  · rw [List.getElem?_set_ne (Ne.symm hj)] at e
    rw [List.getElem?_set_ne (Ne.symm hj)]
    exact k.sl j s e
/-- a slot is stored, its value a new list of its own -/
theorem Ok.setO {i : Nat} {p : Addr} {vs : List V} {ds : List D} (k : Ok K ca B G H own σ S) (hp : H p = some (.lst vs)) (hn : B.H0 p = none) (hg : G p = none) (ho : own p = none) (h : DenL K ca G vs ds) :
    Ok K ca B G H (fun b => if b = p then some i else if own b = some i then none else own b) (σ.set i (some (.ref p))) (S.set i (.ow ds)) := by
  refine ⟨by simpa using k.ln, k.gh, k.g0, k.h0, k.gn, fun b j e => ?_, fun j s e => ?_⟩
  · by_cases hb : b = p
    · subst hb; exact ⟨hn, hg, by rw [hp]; exact fun z => by cases z⟩
    · simp only [if_neg hb] at e
      split at e
      · cases e
      · exact k.ow b j e
  · by_cases hj : j = i
    · subst hj
      have hl : j < S.length := by
        by_cases hl : j < S.length
        · exact hl
        · rw [List.getElem?_eq_none (by simpa using hl)] at e; cases e
      rw [List.getElem?_set_self hl] at e
      cases e
      exact ⟨p, vs, List.getElem?_set_self (Nat.lt_of_lt_of_le hl k.ln), by simp, hp, h⟩
    · rw [List.getElem?_set_ne (Ne.symm hj)] at e
      rw [List.getElem?_set_ne (Ne.symm hj)]
      have q := k.sl j s e
      cases s with
      | un => trivial
      | xc a d fs => exact q
      | fr d => exact q
      | ln ds => exact q
      | nw q1 C fs =>
        obtain ⟨h1, h2, h3⟩ := q
        refine ⟨h1, ?_, h3⟩
        have n1 : q1 ≠ p := fun z => by rw [z, ho] at h2; cases h2
        simp only [if_neg n1]
        rw [if_neg]
        · exact h2
        · rw [h2]; exact fun z => hj (Option.some.inj z)
      | ow es =>
        obtain ⟨q1, ws, h1, h2, h3, h4⟩ := q
        refine ⟨q1, ws, h1, ?_, h3, h4⟩
        have n1 : q1 ≠ p := fun z => by rw [z, ho] at h2; cases h2
        simp only [if_neg n1]
        rw [if_neg]
        · exact h2
        · rw [h2]; exact fun z => hj (Option.some.inj z)
      | dk kvs =>
        obtain ⟨q1, h1, h2, h3⟩ := q
        refine ⟨q1, h1, ?_, h3⟩
        have n1 : q1 ≠ p := fun z => by rw [z, ho] at h2; cases h2
        simp only [if_neg n1]
        rw [if_neg]
        · exact h2
        · rw [h2]; exact fun z => hj (Option.some.inj z)
      | op o d =>
        obtain ⟨t, w, u, h1, h2, h3, h4⟩ := q
        refine ⟨t, w, u, h1, h2, h3, fun ds e => ?_⟩
        obtain ⟨q1, ws, e1, e2, e3, e4⟩ := h4 ds e
        refine ⟨q1, ws, e1, ?_, e3, e4⟩
        have n1 : q1 ≠ p := fun z => by rw [z, ho] at e2; cases e2
        simp only [if_neg n1]
        rw [if_neg]
        · exact e2
        · rw [e2]; exact fun z => hj (Option.some.inj z)
/-- a slot is stored, its value a new dict of its own -/
theorem Ok.setK {i : Nat} {p : Addr} {kvs : List (Int × V)} (k : Ok K ca B G H own σ S) (hp : H p = some (.dK (kvs.map fun kv => (Sum.inl kv.1, kv.2)))) (hn : B.H0 p = none) (hg : G p = none) (ho : own p = none) :
    Ok K ca B G H (fun b => if b = p then some i else if own b = some i then none else own b) (σ.set i (some (.ref p))) (S.set i (.dk kvs)) := by
  refine ⟨by simpa using k.ln, k.gh, k.g0, k.h0, k.gn, fun b j e => ?_, fun j s e => ?_⟩
  · by_cases hb : b = p
    · subst hb; exact ⟨hn, hg, by rw [hp]; exact fun z => by cases z⟩
    · simp only [if_neg hb] at e
      split at e
      · cases e
      · exact k.ow b j e
  · by_cases hj : j = i
    · subst hj
      have hl : j < S.length := by
        by_cases hl : j < S.length
        · exact hl
        · rw [List.getElem?_eq_none (by simpa using hl)] at e; cases e
      rw [List.getElem?_set_self hl] at e
      cases e
      exact ⟨p, List.getElem?_set_self (Nat.lt_of_lt_of_le hl k.ln), by simp, hp⟩
    · rw [List.getElem?_set_ne (Ne.symm hj)] at e
      rw [List.getElem?_set_ne (Ne.symm hj)]
      have q := k.sl j s e
      cases s with
      | un => trivial
      | xc a d fs => exact q
      | fr d => exact q
      | ln ds => exact q
      | nw q1 C fs =>
        obtain ⟨h1, h2, h3⟩ := q
        refine ⟨h1, ?_, h3⟩
        have n1 : q1 ≠ p := fun z => by rw [z, ho] at h2; cases h2
        simp only [if_neg n1]
        rw [if_neg]
        · exact h2
        · rw [h2]; exact fun z => hj (Option.some.inj z)
      | ow es =>
        obtain ⟨q1, ws, h1, h2, h3, h4⟩ := q
        refine ⟨q1, ws, h1, ?_, h3, h4⟩
        have n1 : q1 ≠ p := fun z => by rw [z, ho] at h2; cases h2
        simp only [if_neg n1]
        rw [if_neg]
        · exact h2
        · rw [h2]; exact fun z => hj (Option.some.inj z)
      | dk kvs =>
        obtain ⟨q1, h1, h2, h3⟩ := q
        refine ⟨q1, h1, ?_, h3⟩
        have n1 : q1 ≠ p := fun z => by rw [z, ho] at h2; cases h2
        simp only [if_neg n1]
        rw [if_neg]
        · exact h2
        · rw [h2]; exact fun z => hj (Option.some.inj z)
      | op o d =>
        obtain ⟨t, w, u, h1, h2, h3, h4⟩ := q
        refine ⟨t, w, u, h1, h2, h3, fun ds e => ?_⟩
        obtain ⟨q1, ws, e1, e2, e3, e4⟩ := h4 ds e
        refine ⟨q1, ws, e1, ?_, e3, e4⟩
        have n1 : q1 ≠ p := fun z => by rw [z, ho] at e2; cases e2
        simp only [if_neg n1]
        rw [if_neg]
        · exact e2
        · rw [e2]; exact fun z => hj (Option.some.inj z)
/-- a list of a slot's own is changed -/
theorem Ok.mut {i : Nat} {p : Addr} {vs vs' : List V} {ds : List D} (k : Ok K ca B G H own σ S) (hl' : H p = some (.lst vs')) (ho : own p = some i) (h : DenL K ca G vs ds) (hs : σ[i]? = some (some (.ref p))) :
    Ok K ca B G (upd H p (.lst vs)) own σ (S.set i (.ow ds)) := by
  obtain ⟨a, b, c⟩ := k.ow p i ho
  have hx : ∀ (dd : Addr) (ws : List (Str × V)), H dd = some (.xd ws) → dd ≠ p := fun dd ws e z => by rw [z, hl'] at e; cases e
  refine ⟨by simpa using k.ln, fun b' o e => ?_, k.g0, fun b' o e => ?_, k.gn, fun b' j e => ?_, fun j s e => ?_⟩
  · have : b' ≠ p := fun z => by rw [z, b] at e; cases e
    rw [upd_ne this]; exact k.gh _ _ e
  · have : b' ≠ p := fun z => by rw [z, a] at e; cases e
    rw [upd_ne this]; exact k.h0 _ _ e
  · obtain ⟨a', b'', c'⟩ := k.ow b' j e
    refine ⟨a', b'', fun z => ?_⟩
    unfold upd at z; split at z
    · cases z
    · exact c' z
  · by_cases hj : j = i
    · subst hj
      have hl : j < S.length := by
        by_cases hl : j < S.length
        · exact hl
        · rw [List.getElem?_eq_none (by simpa using hl)] at e; cases e
      rw [List.getElem?_set_self hl] at e
      cases e
      exact ⟨p, vs, hs, ho, upd_same, h⟩
    · rw [List.getElem?_set_ne (Ne.symm hj)] at e
      have q := k.sl j s e
      cases s with
      | un => trivial
      | xc a d fs =>
        obtain ⟨h1, h2⟩ := q
        rcases h2 with h2 | ⟨dd, ws, h2, h3, h4⟩
        · exact ⟨h1, .inl h2⟩
        · refine ⟨h1, .inr ⟨dd, ws, h2, ?_, h4⟩⟩
          rw [upd_ne (hx dd ws h3)]; exact h3
      | fr d => exact q
      | ln ds => exact q
      | nw q1 C fs =>
        obtain ⟨h1, h2, dx, ws, h3, h4⟩ := q
        refine ⟨h1, h2, dx, ws, ?_, h4⟩
        have n1 : q1 ≠ p := fun z => by rw [z, ho] at h2; exact hj (Option.some.inj h2).symm
        rw [upd_ne n1]; exact h3
      | ow es =>
        obtain ⟨q1, ws, h1, h2, h3, h4⟩ := q
        refine ⟨q1, ws, h1, h2, ?_, h4⟩
        have n1 : q1 ≠ p := fun z => by rw [z, ho] at h2; exact hj (Option.some.inj h2).symm
        rw [upd_ne n1]; exact h3
      | dk kvs =>
        obtain ⟨q1, h1, h2, h3⟩ := q
        refine ⟨q1, h1, h2, ?_⟩
        have n1 : q1 ≠ p := fun z => by rw [z, ho] at h2; exact hj (Option.some.inj h2).symm
        rw [upd_ne n1]; exact h3
      | op o d =>
        obtain ⟨t, w, u, h1, h2, h3, h4⟩ := q
        refine ⟨t, w, u, h1, h2, h3, fun ds e => ?_⟩
        obtain ⟨q1, ws, e1, e2, e3, e4⟩ := h4 ds e
        refine ⟨q1, ws, e1, e2, ?_, e4⟩
        have n1 : q1 ≠ p := fun z => by rw [z, ho] at e2; exact hj (Option.some.inj e2).symm
        rw [upd_ne n1]; exact e3
/-- a dict of a slot's own is changed -/
theorem Ok.mutK {i : Nat} {p : Addr} {kvs : List (Int × V)} {vs' : List (Key × V)} (k : Ok K ca B G H own σ S) (hl' : H p = some (.dK vs')) (ho : own p = some i) (hs : σ[i]? = some (some (.ref p))) :
    Ok K ca B G (upd H p (.dK (kvs.map fun kv => (Sum.inl kv.1, kv.2)))) own σ (S.set i (.dk kvs)) := by
  obtain ⟨a, b, c⟩ := k.ow p i ho
  have hx : ∀ (dd : Addr) (ws : List (Str × V)), H dd = some (.xd ws) → dd ≠ p := fun dd ws e z => by rw [z, hl'] at e; cases e
  refine ⟨by simpa using k.ln, fun b' o e => ?_, k.g0, fun b' o e => ?_, k.gn, fun b' j e => ?_, fun j s e => ?_⟩
  · have : b' ≠ p := fun z => by rw [z, b] at e; cases e
    rw [upd_ne this]; exact k.gh _ _ e
  · have : b' ≠ p := fun z => by rw [z, a] at e; cases e
    rw [upd_ne this]; exact k.h0 _ _ e
  · obtain ⟨a', b'', c'⟩ := k.ow b' j e
    refine ⟨a', b'', fun z => ?_⟩
    unfold upd at z; split at z
    · cases z
    · exact c' z
  · by_cases hj : j = i
    · subst hj
      have hl : j < S.length := by
        by_cases hl : j < S.length
        · exact hl
        · rw [List.getElem?_eq_none (by simpa using hl)] at e; cases e
      rw [List.getElem?_set_self hl] at e
      cases e
      exact ⟨p, hs, ho, upd_same⟩
    · rw [List.getElem?_set_ne (Ne.symm hj)] at e
      have q := k.sl j s e
      cases s with
      | un => trivial
      | xc a d fs =>
        obtain ⟨h1, h2⟩ := q
        rcases h2 with h2 | ⟨dd, ws, h2, h3, h4⟩
        · exact ⟨h1, .inl h2⟩
        · refine ⟨h1, .inr ⟨dd, ws, h2, ?_, h4⟩⟩
          rw [upd_ne (hx dd ws h3)]; exact h3
      | fr d => exact q
      | ln ds => exact q
      | nw q1 C fs =>
        obtain ⟨h1, h2, dx, ws, h3, h4⟩ := q
        refine ⟨h1, h2, dx, ws, ?_, h4⟩
        have n1 : q1 ≠ p := fun z => by rw [z, ho] at h2; exact hj (Option.some.inj h2).symm
        rw [upd_ne n1]; exact h3
      | ow es =>
        obtain ⟨q1, ws, h1, h2, h3, h4⟩ := q
        refine ⟨q1, ws, h1, h2, ?_, h4⟩
        have n1 : q1 ≠ p := fun z => by rw [z, ho] at h2; exact hj (Option.some.inj h2).symm
        rw [upd_ne n1]; exact h3
      | dk kvs =>
        obtain ⟨q1, h1, h2, h3⟩ := q
        refine ⟨q1, h1, h2, ?_⟩
        have n1 : q1 ≠ p := fun z => by rw [z, ho] at h2; exact hj (Option.some.inj h2).symm
        rw [upd_ne n1]; exact h3
      | op o d =>
        obtain ⟨t, w, u, h1, h2, h3, h4⟩ := q
        refine ⟨t, w, u, h1, h2, h3, fun ds e => ?_⟩
        obtain ⟨q1, ws, e1, e2, e3, e4⟩ := h4 ds e
        refine ⟨q1, ws, e1, e2, ?_, e4⟩
        have n1 : q1 ≠ p := fun z => by rw [z, ho] at e2; exact hj (Option.some.inj e2).symm
        rw [upd_ne n1]; exact e3
/-- an object of a slot's own is changed -/
theorem Ok.mutN {i : Nat} {p dx dy : Addr} {Cn : Str} {vs vs' : List (Str × V)} {fs : List (Str × D)} (k : Ok K ca B G H own σ S) (hl' : H p = some (.ins (ca Cn) dy vs')) (ho : own p = some i) (h : DenF K ca G vs fs) (hs : σ[i]? = some (some (.ref p))) :
    Ok K ca B G (upd H p (.ins (ca Cn) dx vs)) own σ (S.set i (.nw p Cn fs)) := by
  obtain ⟨a, b, c⟩ := k.ow p i ho
  have hx : ∀ (dd : Addr) (ws : List (Str × V)), H dd = some (.xd ws) → dd ≠ p := fun dd ws e z => by rw [z, hl'] at e; cases e
  refine ⟨by simpa using k.ln, fun b' o e => ?_, k.g0, fun b' o e => ?_, k.gn, fun b' j e => ?_, fun j s e => ?_⟩
  · have : b' ≠ p := fun z => by rw [z, b] at e; cases e
    rw [upd_ne this]; exact k.gh _ _ e
  · have : b' ≠ p := fun z => by rw [z, a] at e; cases e
    rw [upd_ne this]; exact k.h0 _ _ e
  · obtain ⟨a', b'', c'⟩ := k.ow b' j e
    refine ⟨a', b'', fun z => ?_⟩
    unfold upd at z; split at z
    · cases z
    · exact c' z
  · by_cases hj : j = i
    · subst hj
      have hl : j < S.length := by
        by_cases hl : j < S.length
        · exact hl
        · rw [List.getElem?_eq_none (by simpa using hl)] at e; cases e
      rw [List.getElem?_set_self hl] at e
      cases e
      exact ⟨hs, ho, dx, vs, upd_same, h⟩
    · rw [List.getElem?_set_ne (Ne.symm hj)] at e
      have q := k.sl j s e
      have ne : ∀ {q1 : Addr}, own q1 = some j → q1 ≠ p := fun {q1} r z => by rw [z, ho] at r; exact hj (Option.some.inj r).symm
      cases s with
      | un => trivial
      | xc a d fs =>
        obtain ⟨h1, h2⟩ := q
        rcases h2 with h2 | ⟨dd, ws, h2, h3, h4⟩
        · exact ⟨h1, .inl h2⟩
        · refine ⟨h1, .inr ⟨dd, ws, h2, ?_, h4⟩⟩
          rw [upd_ne (hx dd ws h3)]; exact h3
      | fr d => exact q
      | ln ds => exact q
      | nw q1 C fs =>
        obtain ⟨h1, h2, dx, ws, h3, h4⟩ := q
        exact ⟨h1, h2, dx, ws, by rw [upd_ne (ne h2)]; exact h3, h4⟩
      | ow es =>
        obtain ⟨q1, ws, h1, h2, h3, h4⟩ := q
        exact ⟨q1, ws, h1, h2, by rw [upd_ne (ne h2)]; exact h3, h4⟩
      | dk kvs =>
        obtain ⟨q1, h1, h2, h3⟩ := q
        exact ⟨q1, h1, h2, by rw [upd_ne (ne h2)]; exact h3⟩
      | op o d =>
        obtain ⟨t, w, u, h1, h2, h3, h4⟩ := q
        refine ⟨t, w, u, h1, h2, h3, fun ds e => ?_⟩
        obtain ⟨q1, ws, e1, e2, e3, e4⟩ := h4 ds e
        exact ⟨q1, ws, e1, e2, by rw [upd_ne (ne e2)]; exact e3, e4⟩
/-- a list of a slot's own is frozen -/
theorem Ok.frz {i : Nat} {ds : List D} (k : Ok K ca B G H own σ S) (hs : S[i]? = some (.ow ds)) :
    ∃ G' own', Same G G' ∧ Ok K ca B G' H own' σ (S.set i (.fr (.lst ds))) := by
  obtain ⟨p, vs, h1, h2, h3, h4⟩ := k.sl i _ hs
  obtain ⟨a, b, c⟩ := k.ow p i h2
  have sg : Same G (upd G p (.lst vs)) := same_upd b
  refine ⟨upd G p (.lst vs), fun q => if q = p then none else own q, sg, ⟨by simpa using k.ln, fun q o e => ?_, k.g0.trans sg, k.h0, fun q hq => ?_, fun q j e => ?_, fun j s e => ?_⟩⟩
  · by_cases hb : q = p
    · subst hb; rw [upd_same] at e; cases e; exact h3
    · rw [upd_ne hb] at e; exact k.gh _ _ e
  · have : q ≠ p := fun z => hq (z ▸ a)
    rw [upd_ne this]; exact k.gn q hq
  · split at e
    · cases e
    · rename_i hb
      obtain ⟨x, y, z⟩ := k.ow q j e
      exact ⟨x, by rw [upd_ne hb]; exact y, z⟩
  · by_cases hj : j = i
    · subst hj
      have hl : j < S.length := (List.getElem?_eq_some_iff.mp hs).1
      rw [List.getElem?_set_self hl] at e
      cases e
      exact ⟨_, h1, .lst upd_same (h4.mono sg)⟩
    · rw [List.getElem?_set_ne (Ne.symm hj)] at e
      have q := k.sl j s e
      cases s with
      | un => trivial
      | fr d => obtain ⟨v, r1, r2⟩ := q; exact ⟨v, r1, r2.mono sg⟩
      | ln ds => obtain ⟨q1, ws, r1, r2, r3⟩ := q; exact ⟨q1, ws, r1, r2, r3.mono sg⟩
      | xc a d fs =>
        obtain ⟨r1, r2⟩ := q
        rcases r2 with r2 | ⟨dd, ws, r2, r3, r4⟩
        · exact ⟨r1, .inl r2⟩
        · exact ⟨r1, .inr ⟨dd, ws, r2, r3, r4.mono sg⟩⟩
      | nw q1 C fs =>
        obtain ⟨r1, r2, dx, ws, r3, r4⟩ := q
        refine ⟨r1, ?_, dx, ws, r3, r4.mono sg⟩
        have n1 : q1 ≠ p := fun z => by rw [z, h2] at r2; exact hj (Option.some.inj r2).symm
        show (if q1 = p then none else own q1) = some j
        rw [if_neg n1]; exact r2
      | ow es =>
        obtain ⟨q1, ws, r1, r2, r3, r4⟩ := q
        refine ⟨q1, ws, r1, ?_, r3, r4.mono sg⟩
        have n1 : q1 ≠ p := fun z => by rw [z, h2] at r2; exact hj (Option.some.inj r2).symm
        show (if q1 = p then none else own q1) = some j
        rw [if_neg n1]; exact r2
      | dk kvs =>
        obtain ⟨q1, r1, r2, r3⟩ := q
        refine ⟨q1, r1, ?_, r3⟩
        have n1 : q1 ≠ p := fun z => by rw [z, h2] at r2; exact hj (Option.some.inj r2).symm
        show (if q1 = p then none else own q1) = some j
        rw [if_neg n1]; exact r2
      | op o d =>
        obtain ⟨t, w, u, r1, r2, r3, r4⟩ := q
        refine ⟨t, w, u, r1, same_seqT sg r2, r3.mono sg, fun ds e => ?_⟩
        obtain ⟨q1, ws, e1, e2, e3, e4⟩ := r4 ds e
        refine ⟨q1, ws, e1, ?_, e3, e4.mono sg⟩
        have n1 : q1 ≠ p := fun z => by rw [z, h2] at e2; exact hj (Option.some.inj e2).symm
        show (if q1 = p then none else own q1) = some j
        rw [if_neg n1]; exact e2
/-- the list in a pair of a slot's own is frozen -/
theorem Ok.frzP {i : Nat} {ds : List D} {d : D} (k : Ok K ca B G H own σ S) (hs : S[i]? = some (.op (some ds) d)) :
    ∃ G' own', Same G G' ∧ Ok K ca B G' H own' σ (S.set i (.fr (.tup [.lst ds, d]))) := by
  obtain ⟨t0, w0, u0, h1, hT, hU, hL⟩ := k.sl i _ hs
  obtain ⟨p, vs, rfl, h2, h3, h4⟩ := hL ds rfl
  obtain ⟨a, b, c⟩ := k.ow p i h2
  have sg : Same G (upd G p (.lst vs)) := same_upd b
  refine ⟨upd G p (.lst vs), fun q => if q = p then none else own q, sg, ⟨by simpa using k.ln, fun q o e => ?_, k.g0.trans sg, k.h0, fun q hq => ?_, fun q j e => ?_, fun j s e => ?_⟩⟩
  · by_cases hb : q = p
    · subst hb; rw [upd_same] at e; cases e; exact h3
    · rw [upd_ne hb] at e; exact k.gh _ _ e
  · have : q ≠ p := fun z => hq (z ▸ a)
    rw [upd_ne this]; exact k.gn q hq
  · split at e
    · cases e
    · rename_i hb
      obtain ⟨x, y, z⟩ := k.ow q j e
      exact ⟨x, by rw [upd_ne hb]; exact y, z⟩
  · by_cases hj : j = i
    · subst hj
      have hl : j < S.length := (List.getElem?_eq_some_iff.mp hs).1
      rw [List.getElem?_set_self hl] at e
      cases e
      exact ⟨_, h1, .tup (same_seqT sg hT) (.cons (.lst upd_same (h4.mono sg)) (.cons (hU.mono sg) .nil))⟩
    · rw [List.getElem?_set_ne (Ne.symm hj)] at e
      have q := k.sl j s e
      cases s with
      | un => trivial
      | fr d => obtain ⟨v, r1, r2⟩ := q; exact ⟨v, r1, r2.mono sg⟩
      | ln ds => obtain ⟨q1, ws, r1, r2, r3⟩ := q; exact ⟨q1, ws, r1, r2, r3.mono sg⟩
      | xc a d fs =>
        obtain ⟨r1, r2⟩ := q
        rcases r2 with r2 | ⟨dd, ws, r2, r3, r4⟩
        · exact ⟨r1, .inl r2⟩
        · exact ⟨r1, .inr ⟨dd, ws, r2, r3, r4.mono sg⟩⟩
      | nw q1 C fs =>
        obtain ⟨r1, r2, dx, ws, r3, r4⟩ := q
        refine ⟨r1, ?_, dx, ws, r3, r4.mono sg⟩
        have n1 : q1 ≠ p := fun z => by rw [z, h2] at r2; exact hj (Option.some.inj r2).symm
        show (if q1 = p then none else own q1) = some j
        rw [if_neg n1]; exact r2
      | ow es =>
        obtain ⟨q1, ws, r1, r2, r3, r4⟩ := q
        refine ⟨q1, ws, r1, ?_, r3, r4.mono sg⟩
        have n1 : q1 ≠ p := fun z => by rw [z, h2] at r2; exact hj (Option.some.inj r2).symm
        show (if q1 = p then none else own q1) = some j
        rw [if_neg n1]; exact r2
      | dk kvs =>
        obtain ⟨q1, r1, r2, r3⟩ := q
        refine ⟨q1, r1, ?_, r3⟩
        have n1 : q1 ≠ p := fun z => by rw [z, h2] at r2; exact hj (Option.some.inj r2).symm
        show (if q1 = p then none else own q1) = some j
        rw [if_neg n1]; exact r2
      | op o d =>
        obtain ⟨t, w, u, r1, r2, r3, r4⟩ := q
        refine ⟨t, w, u, r1, same_seqT sg r2, r3.mono sg, fun ds e => ?_⟩
        obtain ⟨q1, ws, e1, e2, e3, e4⟩ := r4 ds e
        refine ⟨q1, ws, e1, ?_, e3, e4.mono sg⟩
        have n1 : q1 ≠ p := fun z => by rw [z, h2] at e2; exact hj (Option.some.inj e2).symm
        show (if q1 = p then none else own q1) = some j
        rw [if_neg n1]; exact e2
/-- a slot is stored, its value a pair with a new list of its own -/
theorem Ok.setP {i : Nat} {p t : Addr} {u : V} {d : D} {vs : List V} {ds : List D} (k : Ok K ca B G H own σ S) (ht : SqT K G t [.ref p, u]) (hu : Den K ca G u d) (hp : H p = some (.lst vs)) (hn : B.H0 p = none) (hg : G p = none) (ho : own p = none) (h : DenL K ca G vs ds) :
    Ok K ca B G H (fun b => if b = p then some i else if own b = some i then none else own b) (σ.set i (some (.ref t))) (S.set i (.op (some ds) d)) := by
  refine ⟨by simpa using k.ln, k.gh, k.g0, k.h0, k.gn, fun b j e => ?_, fun j s e => ?_⟩
  · by_cases hb : b = p
    · subst hb; exact ⟨hn, hg, by rw [hp]; exact fun z => by cases z⟩
    · simp only [if_neg hb] at e
      split at e
      · cases e
      · exact k.ow b j e
  · by_cases hj : j = i
    · subst hj
      have hl : j < S.length := by
        by_cases hl : j < S.length
        · exact hl
        · rw [List.getElem?_eq_none (by simpa using hl)] at e; cases e
      rw [List.getElem?_set_self hl] at e
      cases e
      exact ⟨t, .ref p, u, List.getElem?_set_self (Nat.lt_of_lt_of_le hl k.ln), ht, hu, fun ds' e => by cases e; exact ⟨p, vs, rfl, by simp, hp, h⟩⟩
    · rw [List.getElem?_set_ne (Ne.symm hj)] at e
      rw [List.getElem?_set_ne (Ne.symm hj)]
      have q := k.sl j s e
      cases s with
      | un => trivial
      | xc a d fs => exact q
      | fr d => exact q
      | ln ds => exact q
      | nw q1 C fs =>
        obtain ⟨h1, h2, h3⟩ := q
        refine ⟨h1, ?_, h3⟩
        have n1 : q1 ≠ p := fun z => by rw [z, ho] at h2; cases h2
        simp only [if_neg n1]
        rw [if_neg]
        · exact h2
        · rw [h2]; exact fun z => hj (Option.some.inj z)
      | ow es =>
        obtain ⟨q1, ws, h1, h2, h3, h4⟩ := q
        refine ⟨q1, ws, h1, ?_, h3, h4⟩
        have n1 : q1 ≠ p := fun z => by rw [z, ho] at h2; cases h2
        simp only [if_neg n1]
        rw [if_neg]
        · exact h2
        · rw [h2]; exact fun z => hj (Option.some.inj z)
      | dk kvs =>
        obtain ⟨q1, h1, h2, h3⟩ := q
        refine ⟨q1, h1, ?_, h3⟩
        have n1 : q1 ≠ p := fun z => by rw [z, ho] at h2; cases h2
        simp only [if_neg n1]
        rw [if_neg]
        · exact h2
        · rw [h2]; exact fun z => hj (Option.some.inj z)
      | op o d =>
        obtain ⟨t, w, u, h1, h2, h3, h4⟩ := q
        refine ⟨t, w, u, h1, h2, h3, fun ds e => ?_⟩
        obtain ⟨q1, ws, e1, e2, e3, e4⟩ := h4 ds e
        refine ⟨q1, ws, e1, ?_, e3, e4⟩
        have n1 : q1 ≠ p := fun z => by rw [z, ho] at e2; cases e2
        simp only [if_neg n1]
        rw [if_neg]
        · exact e2
        · rw [e2]; exact fun z => hj (Option.some.inj z)
/-- the list of a pair goes over to another slot -/
theorem Ok.takeP {i j : Nat} {ds : List D} {d : D} {p t : Addr} {u : V} (k : Ok K ca B G H own σ S) (hs : S[i]? = some (.op (some ds) d)) (hij : i ≠ j) (h1 : σ[i]? = some (some (.ref t))) (h2 : SqT K G t [.ref p, u]) (hu : Den K ca G u d) (ho : own p = some i) (vs : List V) (hp : H p = some (.lst vs)) (h : DenL K ca G vs ds) :
    Ok K ca B G H (fun b => if b = p then some j else if own b = some j then none else own b) (σ.set j (some (.ref p))) ((S.set i (.op none d)).set j (.ow ds)) := by
  obtain ⟨a0, b0, c0⟩ := k.ow p i ho
  refine ⟨by simpa using k.ln, k.gh, k.g0, k.h0, k.gn, fun b m e => ?_, fun m s e => ?_⟩
  · by_cases hb : b = p
    · subst hb; exact ⟨a0, b0, c0⟩
    · simp only [if_neg hb] at e
      split at e
      · cases e
      · exact k.ow b m e
  · by_cases hj : m = j
    · subst hj
      have hl : m < (S.set i (.op none d)).length := by
        by_cases hl : m < (S.set i (.op none d)).length
        · exact hl
        · rw [List.getElem?_eq_none (by simpa using hl)] at e; cases e
      rw [List.getElem?_set_self hl] at e
      cases e
      rw [List.length_set] at hl
      exact ⟨p, vs, List.getElem?_set_self (Nat.lt_of_lt_of_le hl k.ln), by simp, hp, h⟩
    · rw [List.getElem?_set_ne (Ne.symm hj)] at e
      rw [List.getElem?_set_ne (Ne.symm hj)]
      by_cases hi : m = i
      · subst hi
        have hl : m < S.length := (List.getElem?_eq_some_iff.mp hs).1
        rw [List.getElem?_set_self hl] at e
        cases e
        exact ⟨t, .ref p, u, h1, h2, hu, fun ds' z => by cases z⟩
      · rw [List.getElem?_set_ne (Ne.symm hi)] at e
        have q := k.sl m s e
        have mv : ∀ {q1 : Addr}, own q1 = some m → (if q1 = p then some j else if own q1 = some j then none else own q1) = some m := fun {q1} r => by
          have n1 : q1 ≠ p := fun z => by rw [z, ho] at r; exact hi (Option.some.inj r).symm
          rw [if_neg n1, if_neg]
          · exact r
          · rw [r]; exact fun z => hj (Option.some.inj z)
        cases s with
        | un => trivial
        | xc a d fs => exact q
        | fr d => exact q
        | ln ds => exact q
        | nw q1 C fs => obtain ⟨r1, r2, r3⟩ := q; exact ⟨r1, mv r2, r3⟩
        | ow es => obtain ⟨q1, ws, r1, r2, r3, r4⟩ := q; exact ⟨q1, ws, r1, mv r2, r3, r4⟩
        | dk kvs => obtain ⟨q1, r1, r2, r3⟩ := q; exact ⟨q1, r1, mv r2, r3⟩
        | op o d =>
          obtain ⟨t', w, u', r1, r2, r3, r4⟩ := q
          refine ⟨t', w, u', r1, r2, r3, fun ds' z => ?_⟩
          obtain ⟨q1, ws, e1, e2, e3, e4⟩ := r4 ds' z
          exact ⟨q1, ws, e1, mv e2, e3, e4⟩
/-- less is said of the slots -/
def Wk (S S' : List Sl) : Prop := S'.length ≤ S.length ∧ ∀ (i : Nat) (s : Sl), S'[i]? = some s → s = .un ∨ S[i]? = some s
theorem Wk.nil {S : List Sl} : Wk S [] := ⟨Nat.zero_le _, fun i s e => by simp at e⟩
theorem Wk.refl {S : List Sl} : Wk S S := ⟨Nat.le_refl _, fun i s e => .inr e⟩
theorem Ok.weak {S' : List Sl} (k : Ok K ca B G H own σ S) (h : Wk S S') : Ok K ca B G H own σ S' := by
  refine ⟨Nat.le_trans h.1 k.ln, k.gh, k.g0, k.h0, k.gn, k.ow, fun i s e => ?_⟩
  rcases h.2 i s e with rfl | h
  · trivial
  · exact k.sl i s h
end
end DL

namespace DL
open PySem PySem.Spec PyProof.Rows L2

/-! ### encoders -/
abbrev eI : Int → D := D.int
abbrev eB : Bool → D := D.bl
abbrev eS : Str → D := D.str
abbrev eU : Unit → D := fun _ => .non
abbrev eD : D → D := id
def eL {α : Type} (e : α → D) : List α → D := fun xs => .lst (xs.map e)
def eT {α : Type} (e : α → D) : List α → D := fun xs => .tup (xs.map e)
def eO {α : Type} (e : α → D) : Option α → D := fun o => match o with | none => .non | some x => e x
def eP {α β : Type} (e : α → D) (f : β → D) : α × β → D := fun p => .tup [e p.1, f p.2]

/-! ### an exception as a callee or a body lets it out -/
def Raised (K : PySem.W.Frag) (ca : Str → Addr) (x : Ex) (G : Hp) (cls : Value) (d : Option Addr) (H : Hp) : Prop :=
  cls = .ref (ca x.cls) ∧ (x.args = [] ∨ ∃ dd vs, d = some dd ∧ H dd = some (.xd vs) ∧ DenF K ca G vs x.args)
def ErK (K : PySem.W.Frag) (ca : Str → Addr) (x : Ex) (G H : Hp) (E : XK) : Prop :=
  ∀ cls d G' H', Grow G H G' H' → Raised K ca x G' cls d H' → E cls d H'
theorem ErK.grow {K : PySem.W.Frag} {ca : Str → Addr} {x : Ex} {G H G1 H1 : Hp} {E : XK} (e : ErK K ca x G H E) (g : Grow G H G1 H1) : ErK K ca x G1 H1 E :=
  fun cls d G' H' g' r => e cls d G' H' (g.trans g') r

/-- the parts of a judgement: the classes, the wish, the entry, the slots at a raise -/
structure Jx where
  ca : Str → Addr
  W : WX
  B : Bs
  Sx : List Sl
variable {X : Cx} {J : Jx}

section
variable (X : Cx) (J : Jx)
abbrev OkX (G H : Hp) (own : Addr → Option Nat) (σ : L2.St) (S : List Sl) : Prop := Ok X.K J.ca J.B G H own σ S
/-- what is wanted behind an expression whose result is n -/
def Fin {α : Type} (enc : α → D) (n : M α) (σ : L2.St) (G H : Hp) (Q : VK) : Prop := match n with
  | .ok z => ∀ v G' H', Grow G H G' H' → Den X.K J.ca G' v (enc z) → Q v H'
  | .er x => ErK X.K J.ca x G H fun cls d H' => J.W cls d σ H'
  | .no => False
/-- .. a new list of its own -/
def FinO {α : Type} (enc : α → D) (n : M (List α)) (σ : L2.St) (G H : Hp) (Q : VK) : Prop := match n with
  | .ok z => ∀ p vs G' H', Grow G H G' H' → H p = none → H' p = some (.lst vs) → G' p = none → DenL X.K J.ca G' vs (z.map enc) → Q (.ref p) H'
  | .er x => ErK X.K J.ca x G H fun cls d H' => J.W cls d σ H'
  | .no => False
/-- lent: frozen, or a list of a slot's own -/
def DenB (G H : Hp) (_own : Addr → Option Nat) (v : V) (d : D) : Prop := Den X.K J.ca G v d ∨ ∃ p vs ds, v = .ref p ∧ d = .lst ds ∧ H p = some (.lst vs) ∧ DenL X.K J.ca G vs ds ∧ G p = none
def FinB {α : Type} (enc : α → D) (n : M α) (σ : L2.St) (own : Addr → Option Nat) (G H : Hp) (Q : VK) : Prop := match n with
  | .ok z => ∀ v G' H', Grow G H G' H' → DenB X J G' H' own v (enc z) → Q v H'
  | .er x => ErK X.K J.ca x G H fun cls d H' => J.W cls d σ H'
  | .no => False
def FinT (n : M Bool) (σ : L2.St) (G H : Hp) (Q : Bool → Hp → Prop) : Prop := match n with
  | .ok b => ∀ G' H', Grow G H G' H' → Q b H'
  | .er x => ErK X.K J.ca x G H fun cls d H' => J.W cls d σ H'
  | .no => False
def tE {α : Type} (S : List Sl) (enc : α → D) (n : M α) : TE := fun σ H Q => ∃ G own, OkX X J G H own σ S ∧ Fin X J enc n σ G H Q
def tO {α : Type} (S : List Sl) (enc : α → D) (n : M (List α)) : TE := fun σ H Q => ∃ G own, OkX X J G H own σ S ∧ FinO X J enc n σ G H Q
def tEb {α : Type} (S : List Sl) (enc : α → D) (n : M α) : TE := fun σ H Q => ∃ G own, OkX X J G H own σ S ∧ FinB X J enc n σ own G H Q
def tT (S : List Sl) (n : M Bool) : TT := fun σ H Q => ∃ G own, OkX X J G H own σ S ∧ FinT X J n σ G H Q
/-- e's value is n's, frozen | a new list | lent; a test -/
def DE {α : Type} (S : List Sl) (e : Expr) (enc : α → D) (n : M α) : Prop := PE X e (tE X J S enc n)
def DO {α : Type} (S : List Sl) (e : Expr) (enc : α → D) (n : M (List α)) : Prop := PE X e (tO X J S enc n)
def DB {α : Type} (S : List Sl) (e : Expr) (enc : α → D) (n : M α) : Prop := PE X e (tEb X J S enc n)
def DT (S : List Sl) (e : Expr) (n : M Bool) : Prop := PT X e (tT X J S n)
end

theorem pe_imp {e : Expr} {t t' : TE} (h : PE X e t) (i : ∀ σ H Q, t' σ H Q → t σ H Q) : PE X e t' := ⟨fun pins s σ H Q I q => h.run pins s σ H Q I (i σ H Q q)⟩
theorem pt_imp {e : Expr} {t t' : TT} (h : PT X e t) (i : ∀ σ H Q, t' σ H Q → t σ H Q) : PT X e t' := ⟨fun pins s σ H Q I q => h.run pins s σ H Q I (i σ H Q q)⟩
theorem pss_imp {e : List Stmt} {t t' : TS} (h : PSs X e t) (i : ∀ D σ H, t' D σ H → t D σ H) : PSs X e t' := ⟨fun pins s σ H D I q => h.run pins s σ H D I (i D σ H q)⟩
theorem ps_imp {e : Stmt} {t t' : TS} (h : PS X e t) (i : ∀ D σ H, t' D σ H → t D σ H) : PS X e t' := ⟨fun pins s σ H D I q => h.run pins s σ H D I (i D σ H q)⟩
theorem pss_ex {β : Type} {e : List Stmt} {t : β → TS} (h : ∀ b, PSs X e (t b)) : PSs X e (fun D σ H => ∃ b, t b D σ H) := ⟨fun pins s σ H D I ⟨b, q⟩ => (h b).run pins s σ H D I q⟩

section
variable {α β γ : Type} {S : List Sl} {enc : α → D} {enb : β → D} {G H G' H' : Hp} {own : Addr → Option Nat} {σ : L2.St} {Q : VK}
theorem Fin.grow {n : M α} (f : Fin X J enc n σ G H Q) (g : Grow G H G' H') : Fin X J enc n σ G' H' Q := by
  cases n with
  | ok z => exact fun v G2 H2 g2 d => f v G2 H2 (g.trans g2) d
  | er x => exact ErK.grow f g
  | no => exact f
theorem none_back {p : Addr} (g : Grow G H G' H') (h : H' p = none) : H p = none := Same.free g.h h
theorem FinO.grow {n : M (List α)} (f : FinO X J enc n σ G H Q) (g : Grow G H G' H') : FinO X J enc n σ G' H' Q := by
  cases n with
  | ok z => exact fun p vs G2 H2 g2 hp hq hg d => f p vs G2 H2 (g.trans g2) (none_back g hp) hq hg d
  | er x => exact ErK.grow f g
  | no => exact f
theorem FinB.grow {n : M α} (f : FinB X J enc n σ own G H Q) (g : Grow G H G' H') : FinB X J enc n σ own G' H' Q := by
  cases n with
  | ok z => exact fun v G2 H2 g2 d => f v G2 H2 (g.trans g2) d
  | er x => exact ErK.grow f g
  | no => exact f
theorem FinT.grow {n : M Bool} {Q : Bool → Hp → Prop} (f : FinT X J n σ G H Q) (g : Grow G H G' H') : FinT X J n σ G' H' Q := by
  cases n with
  | ok z => exact fun G2 H2 g2 => f G2 H2 (g.trans g2)
  | er x => exact ErK.grow f g
  | no => exact f
theorem DenB.of {v : V} {d : D} (h : Den X.K J.ca G v d) : DenB X J G H own v d := .inl h
theorem DenB.grow {v : V} {d : D} (h : DenB X J G H own v d) (g : Grow G H G' H') : DenB X J G' H' own v d := by
  rcases h with h | ⟨p, vs, ds, h1, h2, h4, h5, h6⟩
  · exact .inl (h.mono g.g)
  · exact .inr ⟨p, vs, ds, h1, h2, g.h _ _ h4, h5.mono g.g, (g.n p (by rw [h4]; exact fun z => by cases z)).trans h6⟩
theorem DenB.list {v : V} {ds : List D} (e : Same G H) (h : DenB X J G H own v (.lst ds)) : ∃ a vs, v = .ref a ∧ H a = some (.lst vs) ∧ DenL X.K J.ca G vs ds := by
  rcases h with h | ⟨p, vs, es, h1, h2, h4, h5, h6⟩
  · cases h with
    | lst h t => exact ⟨_, _, rfl, e _ _ h, t⟩
  · cases h2; exact ⟨p, vs, h1, h4, h5⟩
theorem Den.tuple {v : V} {ds : List D} (e : Same G H) (h : Den X.K J.ca G v (.tup ds)) : ∃ a vs, v = .ref a ∧ SqT X.K H a vs ∧ DenL X.K J.ca G vs ds := by
  cases h with
  | tup h t => exact ⟨_, _, rfl, same_seqT e h, t⟩
/-- anything but a list is frozen -/
theorem DenB.den {v : V} {d : D} (h : DenB X J G H own v d) (n : ∀ ds, d ≠ .lst ds) : Den X.K J.ca G v d := by
  rcases h with h | ⟨p, vs, es, h1, h2, h4, h5, h6⟩
  · exact h
  · exact absurd h2 (n _)

/-! what comes behind a first part: K, its result's kind -/
/-- a first part m, then f: R is the wish behind all, kept by growth -/
def Wish {δ : Type} (R : M δ → Hp → Hp → Prop) (W : Value → Option Addr → Hp → Prop) (K : PySem.W.Frag) (ca : Str → Addr) : Prop :=
  (∀ n G H G' H', R n G H → Grow G H G' H' → R n G' H') ∧ (∀ x G H, R (.er x) G H → ErK K ca x G H W) ∧ (∀ G H, ¬ R .no G H)
theorem Fin.wish : Wish (fun n G H => Fin X J enc n σ G H Q) (fun cls d H' => J.W cls d σ H') X.K J.ca := ⟨fun _ _ _ _ _ f g => f.grow g, fun _ _ _ f => f, fun _ _ f => f⟩
theorem FinO.wish : Wish (fun n G H => FinO X J enc n σ G H Q) (fun cls d H' => J.W cls d σ H') X.K J.ca := ⟨fun _ _ _ _ _ f g => f.grow g, fun _ _ _ f => f, fun _ _ f => f⟩
theorem FinB.wish : Wish (fun n G H => FinB X J enc n σ own G H Q) (fun cls d H' => J.W cls d σ H') X.K J.ca := ⟨fun _ _ _ _ _ f g => f.grow g, fun _ _ _ f => f, fun _ _ f => f⟩
theorem FinT.wish {Q : Bool → Hp → Prop} : Wish (fun n G H => FinT X J n σ G H Q) (fun cls d H' => J.W cls d σ H') X.K J.ca := ⟨fun _ _ _ _ _ f g => f.grow g, fun _ _ _ f => f, fun _ _ f => f⟩

theorem E_bind {δ : Type} {R : M δ → Hp → Hp → Prop} {n : M α} {f : α → M δ} {P : VK} (w : Wish R (fun cls d H' => J.W cls d σ H') X.K J.ca) (ok : OkX X J G H own σ S) (r : R (mb n f) G H)
    (h : ∀ x v G1 H1, Grow G H G1 H1 → OkX X J G1 H1 own σ S → Den X.K J.ca G1 v (enc x) → R (f x) G1 H1 → P v H1) : tE X J S enc n σ H P := by
  refine ⟨G, own, ok, ?_⟩
  cases n with
  | ok x => exact fun v G1 H1 g d => h x v G1 H1 g (ok.grow g) d (w.1 _ _ _ _ _ r g)
  | er x => exact w.2.1 _ _ _ r
  | no => exact w.2.2 _ _ r
theorem B_bind {δ : Type} {R : M δ → Hp → Hp → Prop} {n : M α} {f : α → M δ} {P : VK} (w : Wish R (fun cls d H' => J.W cls d σ H') X.K J.ca) (ok : OkX X J G H own σ S) (r : R (mb n f) G H)
    (h : ∀ x v G1 H1, Grow G H G1 H1 → OkX X J G1 H1 own σ S → DenB X J G1 H1 own v (enc x) → R (f x) G1 H1 → P v H1) : tEb X J S enc n σ H P := by
  refine ⟨G, own, ok, ?_⟩
  cases n with
  | ok x => exact fun v G1 H1 g d => h x v G1 H1 g (ok.grow g) d (w.1 _ _ _ _ _ r g)
  | er x => exact w.2.1 _ _ _ r
  | no => exact w.2.2 _ _ r
theorem O_bind {δ : Type} {R : M δ → Hp → Hp → Prop} {n : M (List α)} {f : List α → M δ} {P : VK} (w : Wish R (fun cls d H' => J.W cls d σ H') X.K J.ca) (ok : OkX X J G H own σ S) (r : R (mb n f) G H)
    (h : ∀ x p vs G1 H1, Grow G H G1 H1 → OkX X J G1 H1 own σ S → H p = none → own p = none → H1 p = some (.lst vs) → G1 p = none → DenL X.K J.ca G1 vs (x.map enc) → R (f x) G1 H1 → P (.ref p) H1) : tO X J S enc n σ H P := by
  refine ⟨G, own, ok, ?_⟩
  cases n with
  | ok x => exact fun p vs G1 H1 g hp hq hg d => h x p vs G1 H1 g (ok.grow g) hp (by
      cases q : own p with
      | none => rfl
      | some i => exact absurd hp (ok.ow p i q).2.2) hq hg d (w.1 _ _ _ _ _ r g)
  | er x => exact w.2.1 _ _ _ r
  | no => exact w.2.2 _ _ r
theorem T_bind {δ : Type} {R : M δ → Hp → Hp → Prop} {n : M Bool} {f : Bool → M δ} {P : Bool → Hp → Prop} (w : Wish R (fun cls d H' => J.W cls d σ H') X.K J.ca) (ok : OkX X J G H own σ S) (r : R (mb n f) G H)
    (h : ∀ x G1 H1, Grow G H G1 H1 → OkX X J G1 H1 own σ S → R (f x) G1 H1 → P x H1) : tT X J S n σ H P := by
  refine ⟨G, own, ok, ?_⟩
  cases n with
  | ok x => exact fun G1 H1 g => h x G1 H1 g (ok.grow g) (w.1 _ _ _ _ _ r g)
  | er x => exact w.2.1 _ _ _ r
  | no => exact w.2.2 _ _ r
end

/-! ### conversions -/
section
variable {α β : Type} {S : List Sl} {e : Expr} {enc : α → D}
theorem b_e {n : M α} (h : DE X J S e enc n) : DB X J S e enc n := pe_imp h fun σ H Q ⟨G, own, ok, fin⟩ => by
  refine ⟨G, own, ok, ?_⟩
  cases n with
  | ok z => exact fun v G' H' g d => fin v G' H' g (.inl d)
  | er x => exact fin
  | no => exact fin
theorem e_o {n : M (List α)} (h : DO X J S e enc n) : DE X J S e (eL enc) n := pe_imp h fun σ H Q ⟨G, own, ok, fin⟩ => by
  refine ⟨G, own, ok, ?_⟩
  cases n with
  | ok z =>
    refine fun p vs G' H' g hp hq hg d => fin (.ref p) (upd G' p (.lst vs)) H' ⟨g.g.trans (same_upd hg), g.h, fun b o e => ?_, fun b hb => ?_⟩ (.lst upd_same (d.mono (same_upd hg)))
    · by_cases z : b = p
      · subst z; rw [upd_same] at e; cases e; exact hq
      · rw [upd_ne z] at e; exact g.gh _ _ e
    · have : b ≠ p := fun z => hb (z ▸ hp)
      rw [upd_ne this]; exact g.n b hb
  | er x => exact fin
  | no => exact fin
/-- anything but lists -/
theorem e_b {n : M α} (h : DB X J S e enc n) (hn : ∀ z ds, enc z ≠ .lst ds) : DE X J S e enc n := pe_imp h fun σ H Q ⟨G, own, ok, fin⟩ => by
  refine ⟨G, own, ok, ?_⟩
  cases n with
  | ok z => exact fun v G' H' g d => fin v G' H' g (d.den (hn z))
  | er x => exact fin
  | no => exact fin
theorem e_enc {enb : β → D} {n : M α} {n' : M β} (h : DE X J S e enc n) (he : (∀ z, n' = .ok z → ∃ y, n = .ok y ∧ enc y = enb z) ∧ (∀ x, n' = .er x → n = .er x)) : DE X J S e enb n' := pe_imp h fun σ H Q ⟨G, own, ok, fin⟩ => by
  refine ⟨G, own, ok, ?_⟩
  cases n' with
  | ok z =>
    obtain ⟨y, e1, e2⟩ := he.1 z rfl
    rw [e1]
    exact fun v G' H' g d => fin v G' H' g (e2 ▸ d)
  | er x => rw [he.2 x rfl]; exact fin
  | no => exact fin.elim
end

/-! ### names, constants -/
section
variable {α : Type} {S : List Sl} {enc : α → D} {pos : Pos}
theorem e_var (i : Nat) {x : Str} {z : α} (hs : S[i]? = some (.fr (enc z))) (hp : PE X (.Name x pos) (tVar i)) : DE X J S (.Name x pos) enc (.ok z) := pe_imp hp fun σ H Q ⟨G, own, ok, fin⟩ => by
  obtain ⟨v, h1, h2⟩ := ok.sl i _ hs
  exact ⟨v, h1, fin v G H (Grow.refl ok.gh) h2⟩
theorem b_var (i : Nat) {x : Str} {z : List α} (hs : S[i]? = some (.ow (z.map enc))) (hp : PE X (.Name x pos) (tVar i)) : DB X J S (.Name x pos) (eL enc) (.ok z) := pe_imp hp fun σ H Q ⟨G, own, ok, fin⟩ => by
  obtain ⟨p, vs, h1, h2, h3, h4⟩ := ok.sl i _ hs
  exact ⟨_, h1, fin _ G H (Grow.refl ok.gh) (.inr ⟨p, vs, _, rfl, rfl, h3, h4, (ok.ow p i h2).2.1⟩)⟩
theorem Ok.lentB {B : Bs} {G H : Hp} {own : Addr → Option Nat} {σ : L2.St} {p : Addr} {vs : List V} {ds : List D} (ok : Ok X.K J.ca B G H own σ S) (h : B.H0 p = some (.lst vs)) (d : DenL X.K J.ca G vs ds) : DenB X J G H own (.ref p) (.lst ds) := by
  have hp := ok.h0 _ _ h
  cases hg : G p with
  | none => exact .inr ⟨p, vs, ds, rfl, rfl, hp, d, hg⟩
  | some o =>
    have := ok.gh _ _ hg
    rw [hp] at this
    cases this
    exact .inl (.lst hg d)
/-- a lent list by its name -/
theorem l_var (i : Nat) {x : Str} {z : List α} (hs : S[i]? = some (.ln (z.map enc))) (hp : PE X (.Name x pos) (tVar i)) : DB X J S (.Name x pos) (eL enc) (.ok z) := pe_imp hp fun σ H Q ⟨G, own, ok, fin⟩ => by
  obtain ⟨p, vs, h1, h2, h3⟩ := ok.sl i _ hs
  exact ⟨_, h1, fin _ G H (Grow.refl ok.gh) (Ok.lentB (X := X) (J := J) (S := S) ok h2 h3)⟩
theorem e_int {k : Int} {j : Nat} (hp : PE X (.Constant (.int k) j pos) (tC (.int k)) := by exact pe_int) : DE X J S (.Constant (.int k) j pos) eI (.ok k) := pe_imp hp fun σ H Q ⟨G, own, ok, fin⟩ => fin _ G H (Grow.refl ok.gh) (.int k)
theorem e_non {j : Nat} (hp : PE X (.Constant .none j pos) (tC .non) := by exact pe_non) : DE X J S (.Constant .none j pos) eU (.ok ()) := pe_imp hp fun σ H Q ⟨G, own, ok, fin⟩ => fin _ G H (Grow.refl ok.gh) .non
end
end DL

namespace DL
open PySem PySem.Spec PyProof.Rows L2
variable {X : Cx} {J : Jx}

/-! ### outcomes of statements -/
inductive Out (β γ ρ : Type) where
  | nx (b : β) | rt (r : ρ) | bk (c : γ) | ct (c : γ)
inductive RV where
  | fr (d : D) | ow (ds : List D) | op (ds : List D) (d : D)
def sq {β β' γ ρ : Type} (m : M (Out β γ ρ)) (f : β → M (Out β' γ ρ)) : M (Out β' γ ρ) := match m with
  | .ok (.nx b) => f b
  | .ok (.rt r) => .ok (.rt r)
  | .ok (.bk c) => .ok (.bk c)
  | .ok (.ct c) => .ok (.ct c)
  | .er x => .er x
  | .no => .no
@[simp] theorem sq_nx {β β' γ ρ : Type} (b : β) (f : β → M (Out β' γ ρ)) : sq (.ok (.nx b)) f = f b := rfl
@[simp] theorem sq_rt {β β' γ ρ : Type} (r : ρ) (f : β → M (Out β' γ ρ)) : sq (.ok (.rt r)) f = .ok (.rt r) := rfl
@[simp] theorem sq_bk {β β' γ ρ : Type} (r : γ) (f : β → M (Out β' γ ρ)) : sq (.ok (.bk r)) f = .ok (.bk r) := rfl
@[simp] theorem sq_ct {β β' γ ρ : Type} (r : γ) (f : β → M (Out β' γ ρ)) : sq (.ok (.ct r)) f = .ok (.ct r) := rfl
@[simp] theorem sq_er {β β' γ ρ : Type} (x : Ex) (f : β → M (Out β' γ ρ)) : sq (.er x) f = .er x := rfl
@[simp] theorem sq_no {β β' γ ρ : Type} (f : β → M (Out β' γ ρ)) : sq .no f = .no := rfl
theorem sq_mb {α β β' γ ρ : Type} (m : M α) (g : α → M (Out β γ ρ)) (f : β → M (Out β' γ ρ)) : sq (mb m g) f = mb m fun x => sq (g x) f := by cases m <;> rfl
theorem sq_ite {β β' γ ρ : Type} (c : Prop) [Decidable c] (a b : M (Out β γ ρ)) (f : β → M (Out β' γ ρ)) : sq (if c then a else b) f = if c then sq a f else sq b f := by split <;> rfl

section
variable (X : Cx) (J : Jx)
def RtK (r : RV) (rt : VK) : Prop := match r with
  | .fr d => ∀ v G' H', Grow J.B.G0 J.B.H0 G' H' → Den X.K J.ca G' v d → rt v H'
  | .ow ds => ∀ p vs G' H', Grow J.B.G0 J.B.H0 G' H' → J.B.H0 p = none → H' p = some (.lst vs) → G' p = none → DenL X.K J.ca G' vs ds → rt (.ref p) H'
  | .op ds d => ∀ t p u vs G' H', Grow J.B.G0 J.B.H0 G' H' → J.B.H0 p = none → H' p = some (.lst vs) → G' p = none → SqT X.K G' t [.ref p, u] → DenL X.K J.ca G' vs ds → Den X.K J.ca G' u d → rt (.ref t) H'
def FinS {β γ ρ : Type} (N : β → List Sl) (L : γ → List Sl) (R : ρ → RV) (Dn : Ends) (G : Hp) (n : M (Out β γ ρ)) : Prop := match n with
  | .ok (.nx b) => ∀ σ' G' H' own', Same G G' → OkX X J G' H' own' σ' (N b) → Dn.nx σ' H'
  | .ok (.bk c) => ∀ σ' G' H' own', Same G G' → OkX X J G' H' own' σ' (L c) → Dn.bk σ' H'
  | .ok (.ct c) => ∀ σ' G' H' own', Same G G' → OkX X J G' H' own' σ' (L c) → Dn.ct σ' H'
  | .ok (.rt r) => RtK X J (R r) Dn.rt
  | .er x => ∀ cls d σ' G' H' own', Same G G' → OkX X J G' H' own' σ' J.Sx → Raised X.K J.ca x G' cls d H' → J.W cls d σ' H'
  | .no => False
def tS {β γ ρ : Type} (S : List Sl) (N : β → List Sl) (L : γ → List Sl) (R : ρ → RV) (n : M (Out β γ ρ)) : TS := fun Dn σ H => ∃ G own, OkX X J G H own σ S ∧ FinS X J N L R Dn G n
def DSs {β γ ρ : Type} (S : List Sl) (b : List Stmt) (N : β → List Sl) (L : γ → List Sl) (R : ρ → RV) (n : M (Out β γ ρ)) : Prop := PSs X b (tS X J S N L R n)
def DS {β γ ρ : Type} (S : List Sl) (b : Stmt) (N : β → List Sl) (L : γ → List Sl) (R : ρ → RV) (n : M (Out β γ ρ)) : Prop := PS X b (tS X J S N L R n)
end

section
variable {α β β' γ ρ : Type} {S S' : List Sl} {N : β → List Sl} {N' : β' → List Sl} {L : γ → List Sl} {R : ρ → RV} {Dn : Ends} {G H G' H' : Hp} {own : Addr → Option Nat} {σ : L2.St} {enc : α → D} {rest body : List Stmt} {st : Stmt} {e : Expr} {pos : Pos}
theorem FinS.mono {n : M (Out β γ ρ)} (f : FinS X J N L R Dn G n) (g : Same G G') : FinS X J N L R Dn G' n := by
  cases n with
  | ok o =>
    cases o with
    | nx b => exact fun σ' G2 H' own' sg ok' => f σ' G2 H' own' (g.trans sg) ok'
    | rt r => exact f
    | bk c => exact fun σ' G2 H' own' sg ok' => f σ' G2 H' own' (g.trans sg) ok'
    | ct c => exact fun σ' G2 H' own' sg ok' => f σ' G2 H' own' (g.trans sg) ok'
  | er x => exact fun cls d σ' G2 H' own' sg ok' ra => f cls d σ' G2 H' own' (g.trans sg) ok' ra
  | no => exact f
theorem FinS.wish (hw : Wk S J.Sx) : Wish (fun (n : M (Out β γ ρ)) G H => FinS X J N L R Dn G n ∧ OkX X J G H own σ S) (fun cls d H' => J.W cls d σ H') X.K J.ca :=
  ⟨fun _ _ _ _ _ f g => ⟨f.1.mono g.g, f.2.grow g⟩, fun x G H f cls d G' H' g r => f.1 cls d σ G' H' own g.g ((f.2.grow g).weak hw) r, fun _ _ f => f.1⟩
theorem OkX.rt (k : OkX X J G H own σ S) {v : V} {d : D} (h : Den X.K J.ca G v d) {rt : VK} (q : RtK X J (.fr d) rt) : rt v H := q v G H k.base h

theorem ss_cons {m : M (Out β γ ρ)} {f : β → M (Out β' γ ρ)} (h : DS X J S st N L R m) (hr : ∀ b, DSs X J (N b) rest N' L R (f b)) : DSs X J S (st :: rest) N' L R (sq m f) :=
  pss_imp (pss_cons h (pss_ex hr)) fun Dn σ H ⟨G, own, ok, fin⟩ => by
    refine ⟨G, own, ok, ?_⟩
    cases m with
    | ok o =>
      cases o with
      | nx b => exact fun σ' G' H' own' sg ok' => ⟨b, G', own', ok', FinS.mono fin sg⟩
      | rt r => exact fin
      | bk c => exact fin
      | ct c => exact fin
    | er x => exact fin
    | no => exact fin
theorem ss_nil {b : β} (hw : Wk S (N b)) : DSs X J S [] N L R (.ok (.nx b)) :=
  pss_imp pss_nil fun Dn σ H ⟨G, own, ok, fin⟩ => fin σ G H own (Same.refl _) (ok.weak hw)
theorem ss_un {m : M (Out β γ ρ)} (hw : Wk S S') (h : DSs X J S' body N L R m) : DSs X J S body N L R m :=
  pss_imp h fun Dn σ H ⟨G, own, ok, fin⟩ => ⟨G, own, ok.weak hw, fin⟩
theorem ss_frz {m : M (Out β γ ρ)} {ds : List D} (i : Nat) (hs : S[i]? = some (.ow ds)) (h : DSs X J (S.set i (.fr (.lst ds))) body N L R m) : DSs X J S body N L R m :=
  pss_imp h fun Dn σ H ⟨G, own, ok, fin⟩ => by
    obtain ⟨G', own', sg, ok'⟩ := ok.frz hs
    exact ⟨G', own', ok', fin.mono sg⟩
/-- x = e, the value frozen -/
theorem ss_asg {m : M α} {f : α → M (Out β γ ρ)} {i : Nat} {x : Str} {pos' : Pos} (hN : X.N.Nodup) (he : DE X J S e enc m) (hr : ∀ x, DSs X J (S.set i (.fr (enc x))) rest N L R (f x)) (hw : Wk S J.Sx) (hi : X.N[i]? = some x := by rfl) (hx : Loc X.env.scope x := by first | exact Or.inl rfl | exact Or.inr rfl)
    (hs : swapsWith e (some (.Name x pos')) pos.line X.env = pure false := by rfl) (hf : X.fn x = true ∨ X.env.scope.names.lookup x = some .local := by first | exact .inl rfl | exact .inr rfl) :
    DSs X J S (.Assign [.Name x pos'] e pos :: rest) N L R (mb m f) :=
  pss_imp (pss_cons (ps_set (i := i) hN hi hx he hs hf) (pss_ex hr)) fun Dn σ H ⟨G, own, ok, fin⟩ =>
    E_bind (FinS.wish hw) ok ⟨fin, ok⟩ fun x v G1 H1 g ok1 d r => ⟨x, G1, own, ok1.setF d, r.1⟩
/-- x = e, the value a new list of its own -/
theorem ss_asgO {m : M (List α)} {f : List α → M (Out β γ ρ)} {i : Nat} {x : Str} {pos' : Pos} (hN : X.N.Nodup) (he : DO X J S e enc m) (hr : ∀ x, DSs X J (S.set i (.ow (x.map enc))) rest N L R (f x)) (hw : Wk S J.Sx) (hi : X.N[i]? = some x := by rfl) (hx : Loc X.env.scope x := by first | exact Or.inl rfl | exact Or.inr rfl)
    (hs : swapsWith e (some (.Name x pos')) pos.line X.env = pure false := by rfl) (hf : X.fn x = true ∨ X.env.scope.names.lookup x = some .local := by first | exact .inl rfl | exact .inr rfl) :
    DSs X J S (.Assign [.Name x pos'] e pos :: rest) N L R (mb m f) :=
  pss_imp (pss_cons (ps_set (i := i) hN hi hx he hs hf) (pss_ex hr)) fun Dn σ H ⟨G, own, ok, fin⟩ =>
    O_bind (FinS.wish hw) ok ⟨fin, ok⟩ fun x p vs G1 H1 g ok1 hp ho hq hg d r => ⟨x, G1, _, ok1.setO hq (Same.free ok.h0 hp) hg ho d, r.1⟩
theorem ss_ret {m : M α} {g : α → ρ} (he : DE X J S e enc m) (hw : Wk S J.Sx) (hR : ∀ x, R (g x) = .fr (enc x)) : DSs X J S (.Return (some e) pos :: rest) N L R (mb m fun x => .ok (.rt (g x))) :=
  pss_imp (pss_cons (ps_ret he) pss_never) fun Dn σ H ⟨G, own, ok, fin⟩ =>
    E_bind (FinS.wish hw) ok ⟨fin, ok⟩ fun x v G1 H1 _ ok1 d r => by
      have q : RtK X J (R (g x)) Dn.rt := r.1
      rw [hR x] at q
      exact ok1.rt d q
theorem ss_retO {m : M (List α)} {g : List α → ρ} (he : DO X J S e enc m) (hw : Wk S J.Sx) (hR : ∀ x, R (g x) = .ow (x.map enc)) : DSs X J S (.Return (some e) pos :: rest) N L R (mb m fun x => .ok (.rt (g x))) :=
  pss_imp (pss_cons (ps_ret he) pss_never) fun Dn σ H ⟨G, own, ok, fin⟩ =>
    O_bind (FinS.wish hw) ok ⟨fin, ok⟩ fun x p vs G1 H1 _ ok1 hp ho hq hg d r => by
      have q : RtK X J (R (g x)) Dn.rt := r.1
      rw [hR x] at q
      exact q p vs G1 H1 ok1.base (Same.free ok.h0 hp) hq hg d
/-- return x, x a list of its own -/
theorem ss_retV {ds : List D} {x : Str} {p : Pos} {r : ρ} (i : Nat) (hs : S[i]? = some (.ow ds)) (hR : R r = .ow ds) (hp : PE X (.Name x p) (tVar i)) : DSs X J S (.Return (some (.Name x p)) pos :: rest) N L R (.ok (.rt r)) :=
  pss_imp (pss_cons (ps_ret hp) pss_never) fun Dn σ H ⟨G, own, ok, fin⟩ => by
    obtain ⟨p, vs, h1, h2, h3, h4⟩ := ok.sl i _ hs
    obtain ⟨a, b, c⟩ := ok.ow p i h2
    have q : RtK X J (R r) Dn.rt := fin
    rw [hR] at q
    exact ⟨_, h1, q p vs G H ok.base a h3 b h4⟩
theorem ss_retN {r : ρ} (hR : R r = .fr .non) : DSs X J S (.Return none pos :: rest) N L R (.ok (.rt r)) :=
  pss_imp (pss_cons ps_retN pss_never) fun Dn σ H ⟨G, own, ok, fin⟩ => by
    have q : RtK X J (R r) Dn.rt := fin
    rw [hR] at q
    exact q .non G H ok.base .non
theorem ss_pass {m : M (Out β γ ρ)} (h : DSs X J S rest N L R m) : DSs X J S (.Pass pos :: rest) N L R m := pss_cons ps_pass h
theorem ss_brk {c : γ} (hw : Wk S (L c)) : DSs X J S (.Break pos :: rest) N L R (.ok (.bk c)) :=
  pss_imp (pss_cons ps_break pss_never) fun Dn σ H ⟨G, own, ok, fin⟩ => fin σ G H own (Same.refl _) (ok.weak hw)
theorem ss_cont {c : γ} (hw : Wk S (L c)) : DSs X J S (.Continue pos :: rest) N L R (.ok (.ct c)) :=
  pss_imp (pss_cons ps_continue pss_never) fun Dn σ H ⟨G, own, ok, fin⟩ => fin σ G H own (Same.refl _) (ok.weak hw)
theorem ss_expr {m : M α} {f : M (Out β γ ρ)} (he : DE X J S e enc m) (hr : DSs X J S rest N L R f) (hw : Wk S J.Sx) (hs : swapsWith e none pos.line X.env = pure false := by rfl) : DSs X J S (.Expr e pos :: rest) N L R (mb m fun _ => f) :=
  pss_imp (pss_cons (ps_expr he hs) hr) fun Dn σ H ⟨G, own, ok, fin⟩ =>
    E_bind (FinS.wish hw) ok ⟨fin, ok⟩ fun x v G1 H1 _ ok1 d r => ⟨G1, own, ok1, r.1⟩
/-- if c: a else: b, then the rest -/
theorem ss_if {c : Expr} {a b : List Stmt} {mc : M Bool} {ma mb' : M (Out β γ ρ)} {f : β → M (Out β' γ ρ)} (hc : DT X J S c mc) (ha : DSs X J S a N L R ma) (hb : DSs X J S b N L R mb') (hr : ∀ b, DSs X J (N b) rest N' L R (f b)) (hw : Wk S J.Sx) :
    DSs X J S (.If c a b pos :: rest) N' L R (mb mc fun k => sq (if k = true then ma else mb') f) := by
  have h1 : DS X J S (.If c a b pos) N L R (mb mc fun k => if k = true then ma else mb') := ps_imp (ps_if hc ha hb) fun Dn σ H ⟨G, own, ok, fin⟩ =>
    T_bind (FinS.wish hw) ok ⟨fin, ok⟩ fun x G1 H1 g ok1 r => by
      cases x with
      | true => exact ⟨G1, own, ok1, r.1⟩
      | false => exact ⟨G1, own, ok1, r.1⟩
  rw [← sq_mb]
  exact ss_cons h1 hr
/-- its first branch never goes on -/
def NoNx {β γ ρ : Type} (m : M (Out β γ ρ)) : Prop := ∀ b, m ≠ .ok (.nx b)
theorem nn_rt {r : ρ} : NoNx (.ok (.rt r) : M (Out β γ ρ)) := fun b h => by cases h
theorem nn_bk {r : γ} : NoNx (.ok (.bk r) : M (Out β γ ρ)) := fun b h => by cases h
theorem nn_ct {r : γ} : NoNx (.ok (.ct r) : M (Out β γ ρ)) := fun b h => by cases h
theorem nn_er {x : Ex} : NoNx (.er x : M (Out β γ ρ)) := fun b h => by cases h
theorem nn_no : NoNx (.no : M (Out β γ ρ)) := fun b h => by cases h
theorem nn_mb {m : M α} {f : α → M (Out β γ ρ)} (h : ∀ x, NoNx (f x)) : NoNx (mb m f) := by
  cases m with
  | ok x => exact h x
  | er x => exact nn_er
  | no => exact nn_no
theorem nn_sq {m : M (Out β' γ ρ)} {f : β' → M (Out β γ ρ)} (h : ∀ x, NoNx (f x)) : NoNx (sq m f) := by
  cases m with
  | ok o =>
    cases o with
    | nx b => exact h b
    | rt r => exact nn_rt
    | bk r => exact nn_bk
    | ct r => exact nn_ct
  | er x => exact nn_er
  | no => exact nn_no
theorem nn_ite {c : Prop} [Decidable c] {a b : M (Out β γ ρ)} (ha : NoNx a) (hb : NoNx b) : NoNx (if c then a else b) := by split <;> assumption
theorem ss_ifX {c : Expr} {a : List Stmt} {mc : M Bool} {ma f : M (Out β γ ρ)} (hc : DT X J S c mc) (ha : DSs X J S a N L R ma) (hn : NoNx ma) (hr : DSs X J S rest N L R f) (hw : Wk S J.Sx) :
    DSs X J S (.If c a [] pos :: rest) N L R (mb mc fun k => if k = true then ma else f) :=
  pss_imp (pss_cons (ps_if hc ha pss_nil) hr) fun Dn σ H ⟨G, own, ok, fin⟩ =>
    T_bind (FinS.wish hw) ok ⟨fin, ok⟩ fun x G1 H1 g ok1 r => by
      cases x with
      | true =>
        refine ⟨G1, own, ok1, ?_⟩
        have r1 := r.1
        simp only [if_true] at r1
        cases hm : ma with
        | ok o =>
          rw [hm] at r1
          cases o with
          | nx b => exact absurd hm (hn b)
          | rt r => exact r1
          | bk c => exact r1
          | ct c => exact r1
        | er x => rw [hm] at r1; exact r1
        | no => rw [hm] at r1; exact r1
      | false => exact ⟨G1, own, ok1, r.1⟩
/-- .. and it is the last statement, both branches free -/
theorem ss_ifL {c : Expr} {a b : List Stmt} {mc : M Bool} {ma mb' : M (Out β γ ρ)} (hc : DT X J S c mc) (ha : DSs X J S a N L R ma) (hb : DSs X J S b N L R mb') (hw : Wk S J.Sx) :
    DSs X J S [.If c a b pos] N L R (mb mc fun k => if k = true then ma else mb') :=
  pss_imp (pss_one (ps_if hc ha hb)) fun Dn σ H ⟨G, own, ok, fin⟩ =>
    T_bind (FinS.wish hw) ok ⟨fin, ok⟩ fun x G1 H1 g ok1 r => by
      cases x with
      | true => exact ⟨G1, own, ok1, r.1⟩
      | false => exact ⟨G1, own, ok1, r.1⟩

/-! ### lists of a slot's own, changed -/
def line : Nat := 16000000
theorem line_le : line ≤ sizeLine := by rw [sizeLine_eq]; decide
def app {α : Type} (xs : List α) (x : α) : M (List α) := if xs.length < line then .ok (xs ++ [x]) else .no
theorem app_ok {α : Type} {xs : List α} {x : α} (h : xs.length < line) : app xs x = .ok (xs ++ [x]) := if_pos h
/-- x.append(e) -/
theorem ss_app {m : M α} {f : List α → M (Out β γ ρ)} {xs : List α} {x : Str} {p p2 pos2 : Pos} (i : Nat) (hs : S[i]? = some (.ow (xs.map enc))) (hp : PE X (.Name x p) (tVar i)) (he : DE X J S e enc m) (hr : ∀ ys, DSs X J (S.set i (.ow (ys.map enc))) rest N L R (f ys)) (hw : Wk S J.Sx)
    (hb : PE X (.Call (.Attribute (.Name x p) "append" p2) [e] [] pos2) (tBM X.K "list" rAppend (tVar i) (tCons (tE X J S enc m) tNil)))
    (hsw : swapsWith (.Call (.Attribute (.Name x p) "append" p2) [e] [] pos2) none pos.line X.env = pure false := by rfl) :
    DSs X J S (.Expr (.Call (.Attribute (.Name x p) "append" p2) [e] [] pos2) pos :: rest) N L R (mb m fun z => mb (app xs z) f) :=
  pss_imp (pss_cons (ps_expr hb hsw) (pss_ex hr)) fun Dn σ H ⟨G, own, ok, fin⟩ => by
    obtain ⟨q, vs, h1, h2, h3, h4⟩ := ok.sl i _ hs
    refine ⟨.ref q, h1, .inl ⟨rfl, _, SqL.of h3⟩, ?_⟩
    refine E_bind (FinS.wish hw) ok ⟨fin, ok⟩ fun z v G1 H1 g ok1 d r => ?_
    have hq := g.h _ _ h3
    have hl := h4.length
    rw [List.length_map] at hl
    have r1 := r.1
    by_cases hz : xs.length < line
    · rw [app_ok hz] at r1
      have dl : DenL X.K J.ca G1 (vs ++ [v]) ((xs ++ [z]).map enc) := by
        rw [List.map_append]
        exact (h4.mono g.g).append (.cons d .nil)
      exact ⟨q, vs, v, rfl, rfl, hq, by rw [hl]; exact Nat.lt_of_lt_of_le hz line_le, _, G1, own, ok1.mut hq h2 dl h1, r1⟩
    · unfold app at r1
      rw [if_neg hz] at r1
      exact r1.elim
end

/-! ### loops -/
section
variable {α β γ δ ρ : Type}
def forM (f : α → γ → M (Out γ γ ρ)) : List α → γ → M (Out γ δ ρ)
  | [], s => .ok (.nx s)
  | x :: xs, s => match f x s with
    | .ok (.nx s') => forM f xs s'
    | .ok (.ct s') => forM f xs s'
    | .ok (.bk s') => .ok (.nx s')
    | .ok (.rt r) => .ok (.rt r)
    | .er e => .er e
    | .no => .no
def whileM (c : γ → M Bool) (f : γ → M (Out γ γ ρ)) : Nat → γ → M (Out γ δ ρ)
  | 0, _ => .no
  | n + 1, s => mb (c s) fun k => if k = true then (match f s with
    | .ok (.nx s') => whileM c f n s'
    | .ok (.ct s') => whileM c f n s'
    | .ok (.bk s') => .ok (.nx s')
    | .ok (.rt r) => .ok (.rt r)
    | .er e => .er e
    | .no => .no) else .ok (.nx s)
@[simp] theorem forM_nil (f : α → γ → M (Out γ γ ρ)) (s : γ) : (forM f [] s : M (Out γ δ ρ)) = .ok (.nx s) := rfl
end

/-! ### functions -/
def fnO {β γ ρ : Type} (R : ρ → RV) (n : M (Out β γ ρ)) : M RV := match n with
  | .ok (.nx _) => .ok (.fr .non)
  | .ok (.rt r) => .ok (R r)
  | .ok _ => .no
  | .er x => .er x
  | .no => .no
def spR (K : PySem.W.Frag) (ca : Str → Addr) (G H : Hp) (r : M RV) (Q : VK) (E : XK) : Prop := match r with
  | .ok (.fr d) => ∀ v G' H', Grow G H G' H' → Den K ca G' v d → Q v H'
  | .ok (.ow ds) => ∀ p vs G' H', Grow G H G' H' → H p = none → H' p = some (.lst vs) → G' p = none → DenL K ca G' vs ds → Q (.ref p) H'
  | .ok (.op ds d) => ∀ t p u vs G' H', Grow G H G' H' → H p = none → H' p = some (.lst vs) → G' p = none → SqT K G' t [.ref p, u] → DenL K ca G' vs ds → Den K ca G' u d → Q (.ref t) H'
  | .er x => ErK K ca x G H E
  | .no => False
/-- arguments: frozen, or lists lent -/
inductive ArgL (K : PySem.W.Frag) (ca : Str → Addr) (G H : Hp) : List V → List Sl → Prop where
  | nil : ArgL K ca G H [] []
  | cons {v : V} {d : D} {vs : List V} {ss : List Sl} : Den K ca G v d → ArgL K ca G H vs ss → ArgL K ca G H (v :: vs) (.fr d :: ss)
  | consL {p : Addr} {ws : List V} {ds : List D} {vs : List V} {ss : List Sl} : H p = some (.lst ws) → DenL K ca G ws ds → ArgL K ca G H vs ss → ArgL K ca G H (.ref p :: vs) (.ln ds :: ss)
theorem ArgL.length {K : PySem.W.Frag} {ca : Str → Addr} {G H : Hp} : ∀ {vs : List V} {ss : List Sl}, ArgL K ca G H vs ss → vs.length = ss.length
  | _, _, .nil => rfl
  | _, _, .cons _ t => congrArg (· + 1) (ArgL.length t)
  | _, _, .consL _ _ t => congrArg (· + 1) (ArgL.length t)
theorem ArgL.mono {K : PySem.W.Frag} {ca : Str → Addr} {G H G' H' : Hp} (g : Same G G') (h : Same H H') : ∀ {vs : List V} {ss : List Sl}, ArgL K ca G H vs ss → ArgL K ca G' H' vs ss
  | _, _, .nil => .nil
  | _, _, .cons d t => .cons (d.mono g) (ArgL.mono g h t)
  | _, _, .consL p d t => .consL (h _ _ p) (d.mono g) (ArgL.mono g h t)
theorem ArgL.of {K : PySem.W.Frag} {ca : Str → Addr} {G H : Hp} : ∀ {vs : List V} {ds : List D}, DenL K ca G vs ds → ArgL K ca G H vs (ds.map Sl.fr)
  | _, _, .nil => .nil
  | _, _, .cons d t => .cons d (ArgL.of t)
/-- a def's promise: at the arguments encA a it answers code a -/
def spF (K : PySem.W.Frag) (ca : Str → Addr) {α : Type} (encA : α → List Sl) (code : α → M RV) : Sp := fun vs H Q E => ∃ a G, Same G H ∧ ArgL K ca G H vs (encA a) ∧ spR K ca G H (code a) Q E
/-- nothing is said of the slots at a raise -/
abbrev jx (ca : Str → Addr) (E : XK) (G H : Hp) : Jx := ⟨ca, fun cls d _ H' => E cls d H', ⟨G, H⟩, []⟩
structure CxD (X : Cx) (J : Jx) (k : Nat) : Prop where
  calm : X.calm = true
  tk : L2N.Takes X J.W
  po : PassesOwn (model X.prog X.w) X.A X.env X.xe
  room : Room k X.A
  nd : X.N.Nodup
theorem start_get {N : List Str} {vs : List V} {i : Nat} {v : V} (h : vs[i]? = some v) : (L2.start N vs)[i]? = some (some v) := by
  unfold L2.start
  have hi : i < vs.length := (List.getElem?_eq_some_iff.mp h).1
  rw [List.getElem?_append_left (by simpa using hi), List.getElem?_map, h]
  rfl
theorem ArgL.get {K : PySem.W.Frag} {ca : Str → Addr} {G H H0 : Hp} (hH : ∀ (p : Addr) (vs : List V), H p = some (.lst vs) → H0 p = some (.lst vs)) {own : Addr → Option Nat} : ∀ {vs : List V} {ss : List Sl} {i : Nat} {s : Sl}, ArgL K ca G H vs ss → ss[i]? = some s → ∃ v, vs[i]? = some v ∧ ∀ j H2, SlOk K ca ⟨G, H0⟩ G H2 own (some (some v)) j s
  | _, _, _, _, .nil, e => by simp at e
  | _, _, 0, _, .cons d _, e => by cases e; exact ⟨_, rfl, fun j H2 => ⟨_, rfl, d⟩⟩
  | _, _, 0, _, .consL p d _, e => by cases e; exact ⟨_, rfl, fun j H2 => ⟨_, _, rfl, hH _ _ p, d⟩⟩
  | _, _, i + 1, s, .cons _ t, e => ArgL.get hH (i := i) t (by simpa using e)
  | _, _, i + 1, s, .consL _ _ t, e => ArgL.get hH (i := i) t (by simpa using e)
theorem ok_start {K : PySem.W.Frag} {ca : Str → Addr} {G H : Hp} {N : List Str} {vs : List V} {ss : List Sl} {n : Nat} (e : Same G H) (h : ArgL K ca G H vs ss) (hn : ss.length + n ≤ N.length) :
    Ok K ca ⟨G, H⟩ G H (fun _ => none) (L2.start N vs) (ss ++ List.replicate n .un) := by
  have hl := h.length
  refine ⟨by simp [L2.start]; omega, e, Same.refl _, Same.refl _, fun _ _ => rfl, (fun p i z => nomatch z), fun i s q => ?_⟩
  by_cases hi : i < ss.length
  · rw [List.getElem?_append_left hi] at q
    obtain ⟨v, h1, h2⟩ := h.get (fun _ _ z => z) (own := fun _ => none) q
    rw [start_get h1]
    exact h2 i H
  · rw [List.getElem?_append_right (by omega), List.getElem?_replicate] at q
    split at q
    · cases q; trivial
    · cases q
section
variable {P : Program} {w : World} {K : PySem.W.Frag} {mg : Str → Option Value} {base : Heap}
theorem fn_ok {x qual : Str} {st : Stmt} {f : Addr} {fd : FuncData} {N ps : List Str} {k n : Nat} {ca : Str → Addr} {α β γ ρ : Type} {encA : α → List Sl} {R : ρ → RV} {Nx : α → β → List Sl} {L : α → γ → List Sl} {code : α → M (Out β γ ρ)}
    (F : Fun K x qual st f fd) (S : FnScope N ps (defScope st)) (hl : ∀ a, (encA a).length = ps.length) (hn : ps.length + n = N.length)
    (hb : ∀ (cdv : Value) (A : Around) (outer : List Env) (s : Shared) (G H : Hp) (E : XK) (a : α), CxD (cxOf (L2N.CX P w) P w K mg base N qual (defScope st) f cdv A outer s H E) (jx ca E G H) k →
      DSs (cxOf (L2N.CX P w) P w K mg base N qual (defScope st) f cdv A outer s H E) (jx ca E G H) (encA a ++ List.replicate n .un) (defBody st) (Nx a) (L a) R (code a)) :
    FnOk P w K mg base (L2N.CX P w) (k + 1) f fd ps (spF K ca encA fun a => fnO R (code a)) := by
  obtain ⟨oc, od, kV, doc, pm, an, cdv, ct, osl, rfl, lk, hcd⟩ := F.ex
  refine fn_of lk hcd S (fun vs H Q E ⟨a, G, e, d, r⟩ => by rw [d.length, hl a]) fun A outer s H vs Q E hr ⟨a, G, e, d, r⟩ => ?_
  have C : CxD (cxOf (L2N.CX P w) P w K mg base N qual (defScope st) f cdv A outer s H E) (jx ca E G H) k :=
    ⟨rfl, L2N.takes_of rfl rfl rfl rfl, passes_of rfl, hr, S.nd⟩
  refine ⟨_, hb cdv A outer s G H E a C, G, _, ok_start e d (by rw [hl a]; omega), ?_⟩
  have r' : spR K ca G H (fnO R (code a)) Q E := r
  cases hc : code a with
  | ok o =>
    rw [hc] at r'
    cases o with
    | nx b => exact fun σ' G' H' own' sg ok' => r' .non G' H' ok'.base .non
    | rt q =>
      have r2 : spR K ca G H (.ok (R q)) Q E := r'
      show RtK _ _ (R q) Q
      cases hR : R q with
      | fr d => rw [hR] at r2; exact r2
      | ow ds => rw [hR] at r2; exact fun p vs G' H' g h1 h2 h3 h4 => r2 p vs G' H' g h1 h2 h3 h4
      | op ds d => rw [hR] at r2; exact fun t p u vs G' H' g h1 h2 h3 h4 h5 h6 => r2 t p u vs G' H' g h1 h2 h3 h4 h5 h6
    | bk c => exact r'.elim
    | ct c => exact r'.elim
  | er x =>
    rw [hc] at r'
    exact fun cls d σ' G' H' own' sg ok' ra => r' cls d G' H' ok'.base ra
  | no => rw [hc] at r'; exact r'.elim
end
end DL

namespace DL
open PySem PySem.Spec PyProof.Rows L2
variable {X : Cx} {J : Jx}

/-! ### what is walked -/
section
variable (X : Cx) (J : Jx)
def ItOk (G0 : Hp) (It : It) (ds : List D) : Prop := ∀ (i : Nat) (H2 G2 : Hp), Same J.B.H0 H2 → Same G0 G2 → Same G2 H2 →
  (∀ d, ds[i]? = some d → It.go i H2 ∧ ∀ x H3, It.yld i H2 x H3 → ∃ G3, Grow G2 H2 G3 H3 ∧ Den X.K J.ca G3 x d) ∧ (ds.length ≤ i → It.stop i H2)
def FinI {α : Type} (enc : α → D) (n : M (List α)) (σ : L2.St) (G H : Hp) (R : It → Hp → Prop) : Prop := match n with
  | .ok z => ∀ I G' H', Grow G H G' H' → ItOk X J G' I (z.map enc) → R I H'
  | .er x => ErK X.K J.ca x G H fun cls d H' => J.W cls d σ H'
  | .no => False
def tI {α : Type} (S : List Sl) (enc : α → D) (n : M (List α)) : TI := fun σ H R => ∃ G own, OkX X J G H own σ S ∧ FinI X J enc n σ G H R
def DI {α : Type} (S : List Sl) (tg iter : Expr) (enc : α → D) (n : M (List α)) : Prop := PI X tg iter (tI X J S enc n)
/-- a target, by what it does to the slots -/
def DG {α : Type} (tg : Expr) (enc : α → D) (T : α → List Sl → List Sl) : Prop := ∃ g : TG, PG X tg g ∧ ∀ (x : α) (v : V) (G H : Hp) (own : Addr → Option Nat) (σ : L2.St) (S : List Sl) (Q : L2.St → Hp → Prop), OkX X J G H own σ S → Den X.K J.ca G v (enc x) →
  (∀ σ' own', OkX X J G H own' σ' (T x S) → Q σ' H) → g v σ H Q
end
theorem pi_imp {tg e : Expr} {t t' : TI} (h : PI X tg e t) (i : ∀ σ H Q, t' σ H Q → t σ H Q) : PI X tg e t' := ⟨fun pins s σ H Q I q => h.run pins s σ H Q I (i σ H Q q)⟩
section
variable {α β γ δ ρ : Type} {S S' : List Sl} {N : β → List Sl} {L : γ → List Sl} {Lo : δ → List Sl} {R : ρ → RV} {Dn : Ends} {G H G' H' : Hp} {own : Addr → Option Nat} {σ : L2.St} {enc : α → D} {rest body : List Stmt} {st : Stmt} {tg iter e c : Expr} {pos : Pos} {k : Nat}
theorem FinI.wish {R : It → Hp → Prop} : Wish (fun n G H => FinI X J enc n σ G H R) (fun cls d H' => J.W cls d σ H') X.K J.ca := ⟨fun n _ _ _ _ f g => by
  cases n with
  | ok z => exact fun I G2 H2 g2 d => f I G2 H2 (g.trans g2) d
  | er x => exact ErK.grow f g
  | no => exact f, fun _ _ _ f => f, fun _ _ f => f⟩
theorem Den.lst' {v : V} {ds : List D} (d : Den X.K J.ca G v (.lst ds)) : ∃ a vs, v = .ref a ∧ G a = some (.lst vs) ∧ DenL X.K J.ca G vs ds := by
  cases d with
  | lst h t => exact ⟨_, _, rfl, h, t⟩
theorem Den.tup' {v : V} {ds : List D} (d : Den X.K J.ca G v (.tup ds)) : ∃ a vs, v = .ref a ∧ SqT X.K G a vs ∧ DenL X.K J.ca G vs ds := by
  cases d with
  | tup h t => exact ⟨_, _, rfl, h, t⟩
theorem i_list {m : M (List α)} (h : DE X J S iter (eL enc) m) : DI X J S tg iter enc m := pi_imp (pi_list h) fun σ H Q ⟨G, own, ok, fin⟩ => by
  refine ⟨G, own, ok, ?_⟩
  cases m with
  | ok z =>
    intro v G1 H1 g d
    obtain ⟨a, vs, rfl, h1, h2⟩ := Den.lst' d
    refine ⟨a, rfl, ⟨vs, SqL.of (g.gh _ _ h1)⟩, fin _ G1 H1 g fun i H2 G2 s0 s1 s2 => ⟨fun d hd => ?_, fun hl => ?_⟩⟩
    · obtain ⟨x, e1, e2⟩ := h2.get hd
      have q : SqL X.K H2 a vs := SqL.of (s2 _ _ (s1 _ _ h1))
      refine ⟨⟨vs, x, q, e1⟩, fun y H3 ⟨e3, e4⟩ => ⟨G2, ?_, ?_⟩⟩
      · subst e3; exact Grow.refl s2
      · have := e4 vs q
        rw [e1] at this; cases this
        exact e2.mono s1
    · exact ⟨vs, SqL.of (s2 _ _ (s1 _ _ h1)), by rw [h2.length]; exact hl⟩
  | er x => exact fin
  | no => exact fin
theorem i_tup {m : M (List α)} (h : DE X J S iter (eT enc) m) : DI X J S tg iter enc m := pi_imp (pi_tup h) fun σ H Q ⟨G, own, ok, fin⟩ => by
  refine ⟨G, own, ok, ?_⟩
  cases m with
  | ok z =>
    intro v G1 H1 g d
    obtain ⟨a, vs, rfl, h1, h2⟩ := Den.tup' d
    refine ⟨a, rfl, ⟨vs, same_seqT g.gh h1⟩, fin _ G1 H1 g fun i H2 G2 s0 s1 s2 => ⟨fun d hd => ?_, fun hl => ?_⟩⟩
    · obtain ⟨x, e1, e2⟩ := h2.get hd
      have q := same_seqT s2 (same_seqT s1 h1)
      refine ⟨⟨vs, x, q, e1⟩, fun y H3 ⟨e3, e4⟩ => ⟨G2, ?_, ?_⟩⟩
      · subst e3; exact Grow.refl s2
      · have := e4 vs q
        rw [e1] at this; cases this
        exact e2.mono s1
    · exact ⟨vs, same_seqT s2 (same_seqT s1 h1), by rw [h2.length]; exact hl⟩
  | er x => exact fin
  | no => exact fin
/-- a lent list by its name -/
theorem i_ln (i : Nat) {x : Str} {z : List α} (hs : S[i]? = some (.ln (z.map enc))) (hp : PE X (.Name x pos) (tVar i)) : DI X J S tg (.Name x pos) enc (.ok z) := pi_imp (pi_list hp) fun σ H Q ⟨G, own, ok, fin⟩ => by
  obtain ⟨p, vs, h1, h2, h3⟩ := ok.sl i _ hs
  have hp' := ok.h0 _ _ h2
  refine ⟨_, h1, p, rfl, ⟨vs, SqL.of hp'⟩, fin _ G H (Grow.refl ok.gh) fun i H2 G2 s0 s1 s2 => ⟨fun d hd => ?_, fun hl => ?_⟩⟩
  · obtain ⟨x, e1, e2⟩ := h3.get hd
    have q : SqL X.K H2 p vs := SqL.of (s0 _ _ h2)
    refine ⟨⟨vs, x, q, e1⟩, fun y H3 ⟨e3, e4⟩ => ⟨G2, ?_, ?_⟩⟩
    · subst e3; exact Grow.refl s2
    · have := e4 vs q
      rw [e1] at this; cases this
      exact e2.mono s1
  · exact ⟨vs, SqL.of (s0 _ _ h2), by rw [h3.length]; exact hl⟩
/-- the ints of a range -/
def rng (lo hi : Int) : List Int := (List.range (hi - lo).toNat).map fun (i : Nat) => lo + (i : Int)
def okI (i : Int) : Bool := decide (-(2 ^ 62) ≤ i ∧ i < 2 ^ 62)
def rngM (lo hi : Int) : M (List Int) := if okI lo && okI hi then .ok (rng lo hi) else .no
theorem rng_len (lo hi : Int) : (rng lo hi).length = (hi - lo).toNat := by unfold rng; rw [List.length_map, List.length_range]
theorem rng_get {lo hi : Int} {i : Nat} (h : i < (hi - lo).toNat) : (rng lo hi)[i]? = some (lo + i) := by
  unfold rng; rw [List.getElem?_map, List.getElem?_range h]; rfl
theorem itr_ok {lo hi : Int} : ItOk X J G (Itr lo (hi - lo).toNat) ((rng lo hi).map eI) := fun i H2 G2 s0 s1 s2 => by
  refine ⟨fun d hd => ?_, fun hl => ?_⟩
  · have hi' : i < (hi - lo).toNat := by
      have := (List.getElem?_eq_some_iff.mp hd).1
      rwa [List.length_map, rng_len] at this
    rw [List.getElem?_map, rng_get hi'] at hd
    cases hd
    exact ⟨hi', fun x H3 ⟨e, y⟩ => ⟨G2, by subst e; exact Grow.refl s2, by subst y; exact .int _⟩⟩
  · rw [List.length_map, rng_len] at hl
    exact hl
theorem i_range1 {a : Expr} {p : Pos} {m : M Int} (hg : Gl X "range") (hm : X.mg "range" = none) (ha : PA X [a] (tCons (tE X J S eI m) tNil)) (hs : starEach [a] X.env = [(false, eval a X.env)] := by rfl) : DI X J S tg (.Call (.Name "range" p) [a] [] pos) eI (mb m fun n => rngM 0 n) :=
  pi_imp (pi_range1 hg hm ha hs) fun σ H Q ⟨G, own, ok, fin⟩ =>
    E_bind FinI.wish ok fin fun n v G1 H1 g ok1 d r => by
      cases d
      unfold rngM at r
      split at r
      · rename_i h
        simp only [okI, Bool.and_eq_true, decide_eq_true_eq] at h
        refine ⟨n, rfl, h.2.1, h.2.2, ?_⟩
        have q := r (Itr 0 (n - 0).toNat) G1 H1 (Grow.refl ok1.gh) itr_ok
        rwa [show n - 0 = n by omega] at q
      · exact r.elim
theorem i_range2 {a b : Expr} {p : Pos} {ma mb' : M Int} (hg : Gl X "range") (hm : X.mg "range" = none) (ha : PA X [a, b] (tCons (tE X J S eI ma) (tCons (tE X J S eI mb') tNil))) (hs : starEach [a, b] X.env = [(false, eval a X.env), (false, eval b X.env)] := by rfl) (hs2 : starEach [b] X.env = [(false, eval b X.env)] := by rfl) :
    DI X J S tg (.Call (.Name "range" p) [a, b] [] pos) eI (mb ma fun i => mb mb' fun j => rngM i j) :=
  pi_imp (pi_range2 hg hm ha hs hs2) fun σ H Q ⟨G, own, ok, fin⟩ =>
    E_bind FinI.wish ok fin fun i v G1 H1 g ok1 d r => E_bind FinI.wish ok1 r fun j u G2 H2 g2 ok2 d2 r => by
      cases d
      cases d2
      unfold rngM at r
      split at r
      · rename_i h
        simp only [okI, Bool.and_eq_true, decide_eq_true_eq] at h
        exact ⟨i, j, rfl, ⟨h.1.1, h.1.2, h.2.1, h.2.2⟩, r (Itr i (j - i).toNat) G2 H2 (Grow.refl ok2.gh) itr_ok⟩
      · exact r.elim
theorem g_name {i : Nat} {x : Str} (hN : X.N.Nodup) (hi : X.N[i]? = some x := by rfl) (hx : Loc X.env.scope x := by first | exact Or.inl rfl | exact Or.inr rfl) (hf : X.fn x = true ∨ X.env.scope.names.lookup x = some .local := by first | exact .inl rfl | exact .inr rfl) :
    DG X J (.Name x pos) enc (fun z S => S.set i (.fr (enc z))) := ⟨_, pg_name hN hi hx hf, fun _ _ G H own σ S Q ok d q => q _ own (ok.setF d)⟩

theorem ss_for {m : M (List α)} {f : α → γ → M (Out γ γ ρ)} {T : α → List Sl → List Sl} {g : γ → M (Out β δ ρ)} (s0 : γ) (C : CxD X J k) (hi : DI X J S tg iter enc m) (hg : DG X J tg enc T) (hw0 : Wk S (L s0)) (hw : Wk S J.Sx)
    (hb : ∀ x s, DSs X J (T x (L s)) body L L R (f x s)) (hr : ∀ s, DSs X J (L s) rest N Lo R (g s)) (hs : ∀ x, foldedSetIterable iter X.env x = pure x := by intro _; rfl) :
    DSs X J S (.For tg iter body [] pos :: rest) N Lo R (mb m fun zs => sq (forM f zs s0) g) := by
  rw [← sq_mb]
  obtain ⟨gt, hg, hgt⟩ := hg
  refine ss_cons (N := L) (ps_imp (ps_for C.po C.calm hi hg (pss_ex fun x => pss_ex fun s => hb x s) hs) fun Dn σ H ⟨G, own, ok, fin⟩ => ?_) hr
  refine ⟨G, own, ok, ?_⟩
  have W := FinS.wish (X := X) (J := J) (N := L) (L := Lo) (R := R) (Dn := Dn) (own := own) (σ := σ) hw
  cases m with
  | er x => exact W.2.1 x G H ⟨fin, ok⟩
  | no => exact fin.elim
  | ok zs =>
    intro I G1 H1 gr io
    have fin : FinS X J L Lo R Dn G (forM f zs s0) := fin
    refine ⟨fun i m σ2 H2 => m = zs.length - i ∧ i ≤ zs.length ∧ ∃ s G2 own2, OkX X J G2 H2 own2 σ2 (L s) ∧ Same G1 G2 ∧ FinS X J L Lo R Dn G2 (forM f (zs.drop i) s), ⟨_, rfl, Nat.zero_le _, s0, G1, own, (ok.grow gr).weak hw0, Same.refl _, by rw [List.drop_zero]; exact fin.mono gr.g⟩, ?_⟩
    rintro i m σ2 H2 ⟨rfl, hile, s, G2, own2, ok2, s12, fin2⟩
    by_cases hlt : i < zs.length
    · have hd : (zs.map enc)[i]? = some (enc zs[i]) := by rw [List.getElem?_map, List.getElem?_eq_getElem hlt]; rfl
      obtain ⟨go, yld⟩ := (io i H2 G2 ok2.h0 s12 ok2.gh).1 _ hd
      rw [List.drop_eq_getElem_cons hlt] at fin2
      refine .inr ⟨go, fun σ' H' => zs.length - (i + 1) = zs.length - (i + 1) ∧ i + 1 ≤ zs.length ∧ ∃ s G2 own2, OkX X J G2 H' own2 σ' (L s) ∧ Same G1 G2 ∧ FinS X J L Lo R Dn G2 (forM f (zs.drop (i + 1)) s), fun σ' H' n => ⟨_, by omega, n⟩, fun x H3 y => ?_⟩
      obtain ⟨G3, gr3, den⟩ := yld x H3 y
      refine hgt zs[i] x G3 H3 own2 σ2 (L s) _ (ok2.grow gr3) den fun σ4 own4 ok4 => ⟨zs[i], s, G3, own4, ok4, ?_⟩
      have again : ∀ {s' : γ}, FinS X J L Lo R Dn G2 (forM f (zs.drop (i + 1)) s') → ∀ σ' G' H' own', Same G3 G' → OkX X J G' H' own' σ' (L s') → zs.length - (i + 1) = zs.length - (i + 1) ∧ i + 1 ≤ zs.length ∧ ∃ s G2 own2, OkX X J G2 H' own2 σ' (L s) ∧ Same G1 G2 ∧ FinS X J L Lo R Dn G2 (forM f (zs.drop (i + 1)) s) :=
        fun {s'} q σ' G' H' own' sg ok' => ⟨rfl, hlt, s', G', own', ok', s12.trans (gr3.g.trans sg), q.mono (gr3.g.trans sg)⟩
      unfold forM at fin2
      cases hf : f zs[i] s with
      | ok o =>
        rw [hf] at fin2
        cases o with
        | nx s' => exact fun σ' G' H' own' sg ok' => again fin2 σ' G' H' own' sg ok'
        | ct s' => exact fun σ' G' H' own' sg ok' => again fin2 σ' G' H' own' sg ok'
        | bk s' => exact fun σ' G' H' own' sg ok' => fin2 σ' G' H' own' (gr3.g.trans sg) ok'
        | rt r => exact fin2
      | er x => rw [hf] at fin2; exact FinS.mono (n := .er x) (N := L) (L := L) (R := R) (Dn := ⟨_, _, _, _⟩) fin2 gr3.g
      | no => rw [hf] at fin2; exact fin2.elim
    · have he : i = zs.length := by omega
      subst he
      rw [List.drop_length] at fin2
      exact .inl ⟨(io _ H2 G2 ok2.h0 s12 ok2.gh).2 (by rw [List.length_map]; exact Nat.le_refl _), fin2 σ2 G2 H2 own2 (Same.refl _) ok2⟩
theorem ss_while {mc : γ → M Bool} {f : γ → M (Out γ γ ρ)} {g : γ → M (Out β δ ρ)} (n : Nat) (s0 : γ) (C : CxD X J k) (hc : ∀ s, DT X J (L s) c (mc s)) (hw0 : Wk S (L s0)) (hw : ∀ s, Wk (L s) J.Sx)
    (hb : ∀ s, DSs X J (L s) body L L R (f s)) (hr : ∀ s, DSs X J (L s) rest N Lo R (g s)) :
    DSs X J S (.While c body [] pos :: rest) N Lo R (sq (whileM mc f n s0) g) := by
  have hc' : PT X c (fun σ H Q => ∃ s, tT X J (L s) (mc s) σ H Q) := ⟨fun pins s σ H Q I ⟨z, q⟩ => (hc z).run pins s σ H Q I q⟩
  refine ss_cons (N := L) (ps_imp (ps_while C.po hc' (pss_ex hb)) fun Dn σ H ⟨G, own, ok, fin⟩ => ?_) hr
  refine ⟨fun m σ2 H2 => ∃ s G2 own2, OkX X J G2 H2 own2 σ2 (L s) ∧ FinS X J L Lo R Dn G2 (whileM mc f m s), ⟨n, s0, G, own, ok.weak hw0, fin⟩, ?_⟩
  rintro m σ2 H2 ⟨s, G2, own2, ok2, fin2⟩
  cases m with
  | zero => exact fin2.elim
  | succ m =>
    unfold whileM at fin2
    refine ⟨s, T_bind (FinS.wish (hw s)) ok2 ⟨fin2, ok2⟩ fun b G3 H3 gr ok3 r => ?_⟩
    cases b with
    | false => exact r.1 σ2 G3 H3 own2 (Same.refl _) ok3
    | true =>
      have fin3 := r.1
      simp only [if_true] at fin3
      refine ⟨fun σ' H' => ∃ s G2 own2, OkX X J G2 H' own2 σ' (L s) ∧ FinS X J L Lo R Dn G2 (whileM mc f m s), fun σ' H' q => ⟨m, Nat.lt_succ_self m, q⟩, s, G3, own2, ok3, ?_⟩
      cases hf : f s with
      | ok o =>
        rw [hf] at fin3
        cases o with
        | nx s' => exact fun σ' G' H' own' sg ok' => ⟨s', G', own', ok', fin3.mono sg⟩
        | ct s' => exact fun σ' G' H' own' sg ok' => ⟨s', G', own', ok', fin3.mono sg⟩
        | bk s' => exact fun σ' G' H' own' sg ok' => fin3 σ' G' H' own' sg ok'
        | rt r => exact fin3
      | er x => rw [hf] at fin3; exact fin3
      | no => rw [hf] at fin3; exact fin3.elim
end
end DL

namespace DL
open PySem PySem.Spec PyProof.Rows L2
variable {X : Cx} {J : Jx}
section
variable {α β γ δ ρ : Type} {S : List Sl} {enc : α → D} {enb : β → D} {a b c e : Expr} {es : List Expr} {pos p : Pos} {k j : Nat} {ma mb' : M Int}

/-! ### numbers -/
def mulM (i j : Int) : M Int := if i.natAbs < 2 ^ 64 ∨ j.natAbs < 2 ^ 64 then .ok (i * j) else .no
def divM (i j : Int) : M Int := if 0 < j ∧ j < 2 ^ 1000 then .ok (i / j) else .no
def modM (i j : Int) : M Int := if 0 < j then .ok (i % j) else .no
def powM (i j : Int) : M Int := if 0 ≤ j ∧ j ≤ 1000 ∧ i.natAbs < 2 ^ 64 then .ok (i ^ j.toNat) else .no
theorem e_rI0 {op : Operator} {g : Int → Int → Int} (ho : OpR X (binaryOp op) (rI0 fun i j => .int (g i j))) (ha : DE X J S a eI ma) (hb : DE X J S b eI mb') : DE X J S (.BinOp a op b pos) eI (mb ma fun i => mb mb' fun j => .ok (g i j)) :=
  pe_imp (pe_op ho ha hb) fun σ H Q ⟨G, own, ok, fin⟩ => E_bind Fin.wish ok fin fun i v G1 H1 g1 ok1 d1 r => E_bind Fin.wish ok1 r fun j u G2 H2 g2 ok2 d2 r => by
    cases d1; cases d2
    exact ⟨i, j, rfl, rfl, r _ G2 H2 (Grow.refl ok2.gh) (.int _)⟩
theorem e_rI {op : Operator} {g : Int → Int → Int} {C : Int → Int → Prop} {gm : Int → Int → M Int} (ho : OpR X (binaryOp op) (rI C fun i j => .int (g i j))) (hg : ∀ i j, gm i j = .ok (g i j) ∧ C i j ∨ gm i j = .no) (ha : DE X J S a eI ma) (hb : DE X J S b eI mb') :
    DE X J S (.BinOp a op b pos) eI (mb ma fun i => mb mb' fun j => gm i j) :=
  pe_imp (pe_op ho ha hb) fun σ H Q ⟨G, own, ok, fin⟩ => E_bind Fin.wish ok fin fun i v G1 H1 g1 ok1 d1 r => E_bind Fin.wish ok1 r fun j u G2 H2 g2 ok2 d2 r => by
    cases d1; cases d2
    rcases hg i j with ⟨e, h⟩ | e
    · rw [e] at r
      exact ⟨i, j, rfl, rfl, h, r _ G2 H2 (Grow.refl ok2.gh) (.int _)⟩
    · rw [e] at r; exact r.elim
theorem e_add (ha : DE X J S a eI ma) (hb : DE X J S b eI mb') : DE X J S (.BinOp a .Add b pos) eI (mb ma fun i => mb mb' fun j => .ok (i + j)) := e_rI0 op_add ha hb
theorem e_sub (ha : DE X J S a eI ma) (hb : DE X J S b eI mb') : DE X J S (.BinOp a .Sub b pos) eI (mb ma fun i => mb mb' fun j => .ok (i - j)) := e_rI0 op_sub ha hb
theorem e_mul (ha : DE X J S a eI ma) (hb : DE X J S b eI mb') : DE X J S (.BinOp a .Mult b pos) eI (mb ma fun i => mb mb' fun j => mulM i j) :=
  e_rI (op_mul) (fun i j => by
    unfold mulM
    split
    · rename_i h
      refine .inl ⟨rfl, ?_⟩
      rcases h with h | h
      · left; omega
      · right; omega
    · exact .inr rfl) ha hb
theorem e_div (ha : DE X J S a eI ma) (hb : DE X J S b eI mb') : DE X J S (.BinOp a .FloorDiv b pos) eI (mb ma fun i => mb mb' fun j => divM i j) :=
  e_rI (op_fdivW) (fun i j => by
    unfold divM
    split
    · rename_i h
      exact .inl ⟨rfl, wide_div (b := 1000) h.1 (by have := h.2; omega) (by decide) (by decide)⟩
    · exact .inr rfl) ha hb
theorem e_mod (ha : DE X J S a eI ma) (hb : DE X J S b eI mb') : DE X J S (.BinOp a .Mod b pos) eI (mb ma fun i => mb mb' fun j => modM i j) :=
  e_rI (op_mod) (fun i j => by
    unfold modM
    split
    · rename_i h; exact .inl ⟨rfl, h⟩
    · exact .inr rfl) ha hb
theorem e_pow (ha : DE X J S a eI ma) (hb : DE X J S b eI mb') : DE X J S (.BinOp a .Pow b pos) eI (mb ma fun i => mb mb' fun j => powM i j) :=
  e_rI (op_pow) (fun i j => by
    unfold powM
    split
    · rename_i h; exact .inl ⟨rfl, h.1, by have := h.2.1; omega, h.2.2⟩
    · exact .inr rfl) ha hb
theorem e_neg (ha : DE X J S a eI ma) : DE X J S (.UnaryOp .USub a pos) eI (mb ma fun i => .ok (-i)) :=
  pe_imp (pe_un un_neg ha) fun σ H Q ⟨G, own, ok, fin⟩ => E_bind Fin.wish ok fin fun i v G1 H1 g1 ok1 d1 r => by
    cases d1
    exact ⟨i, rfl, r _ G1 H1 (Grow.refl ok1.gh) (.int _)⟩

/-! ### comparisons, by values -/
/-- what a comparison tells of two values -/
def CmpD (X : Cx) (J : Jx) (op : CmpOp) {α β : Type} (enc : α → D) (enb : β → D) (t : α → β → Bool) : Prop :=
  ∃ r : R2, OpR X (compareOp op) r ∧ ∀ (x : α) (y : β) (v u : V) (G H : Hp) (own : Addr → Option Nat) (Q : VK), Same G H → DenB X J G H own v (enc x) → DenB X J G H own u (enb y) → Q (.bl (t x y)) H → r v u H Q
theorem e_cmp {op : CmpOp} {t : α → β → Bool} {m : M α} {n : M β} (hc : CmpD X J op enc enb t) (ha : DB X J S a enc m) (hb : DB X J S b enb n) (hm : behindInMarks op b = false) : DE X J S (.Compare a [op] [b] pos) eB (mb m fun x => mb n fun y => .ok (t x y)) := by
  obtain ⟨r, ho, hr⟩ := hc
  exact pe_imp (pe_cmpR ho ha hb hm) fun σ H Q ⟨G, own, ok, fin⟩ => B_bind Fin.wish ok fin fun x v G1 H1 g1 ok1 d1 r1 => B_bind Fin.wish ok1 r1 fun y u G2 H2 g2 ok2 d2 r2 =>
    hr x y v u G2 H2 own Q ok2.gh (d1.grow g2) d2 (r2 _ G2 H2 (Grow.refl ok2.gh) (.bl _))
theorem t_cmp {op : CmpOp} {t : α → β → Bool} {m : M α} {n : M β} (hc : CmpD X J op enc enb t) (ha : DB X J S a enc m) (hb : DB X J S b enb n) (hm : behindInMarks op b = false) : DT X J S (.Compare a [op] [b] pos) (mb m fun x => mb n fun y => .ok (t x y)) := by
  obtain ⟨r, ho, hr⟩ := hc
  exact pt_imp (pt_cmpR ho ha hb hm) fun σ H Q ⟨G, own, ok, fin⟩ => B_bind FinT.wish ok fin fun x v G1 H1 g1 ok1 d1 r1 => B_bind FinT.wish ok1 r1 fun y u G2 H2 g2 ok2 d2 r2 =>
    hr x y v u G2 H2 own _ ok2.gh (d1.grow g2) d2 ⟨_, rfl, r2 G2 H2 (Grow.refl ok2.gh)⟩
theorem DenB.int {G H : Hp} {own : Addr → Option Nat} {v : V} {i : Int} (d : DenB X J G H own v (eI i)) : v = .int i := by
  rcases d with d | ⟨_, _, _, _, h, _⟩
  · cases d; rfl
  · cases h
theorem DenB.bl {G H : Hp} {own : Addr → Option Nat} {v : V} {i : Bool} (d : DenB X J G H own v (eB i)) : v = .bl i := by
  rcases d with d | ⟨_, _, _, _, h, _⟩
  · cases d; rfl
  · cases h
theorem DenB.str {G H : Hp} {own : Addr → Option Nat} {v : V} {i : Str} (d : DenB X J G H own v (eS i)) : v = .str i := by
  rcases d with d | ⟨_, _, _, _, h, _⟩
  · cases d; rfl
  · cases h
theorem c_lt : CmpD X J .Lt eI eI fun i j => decide (i < j) := ⟨_, op_lt, fun x y v u G H own Q _ d1 d2 q => ⟨x, y, d1.int, d2.int, q⟩⟩
theorem c_le : CmpD X J .LtE eI eI fun i j => decide (i ≤ j) := ⟨_, op_le, fun x y v u G H own Q _ d1 d2 q => ⟨x, y, d1.int, d2.int, q⟩⟩
theorem c_gt : CmpD X J .Gt eI eI fun i j => decide (j < i) := ⟨_, op_gt, fun x y v u G H own Q _ d1 d2 q => ⟨x, y, d1.int, d2.int, q⟩⟩
theorem c_ge : CmpD X J .GtE eI eI fun i j => decide (j ≤ i) := ⟨_, op_ge, fun x y v u G H own Q _ d1 d2 q => ⟨x, y, d1.int, d2.int, q⟩⟩
theorem c_eq : CmpD X J .Eq eI eI fun i j => decide (i = j) := ⟨_, op_eq, fun x y v u G H own Q _ d1 d2 q => by
  rw [d1.int, d2.int]
  refine ⟨rfl, ?_⟩
  rwa [show decide (V.int x = V.int y) = decide (x = y) by rw [dec_int, Bool.beq_eq_decide_eq]]⟩
theorem c_ne : CmpD X J .NotEq eI eI fun i j => !decide (i = j) := ⟨_, op_ne, fun x y v u G H own Q _ d1 d2 q => by
  rw [d1.int, d2.int]
  refine ⟨rfl, ?_⟩
  rwa [show decide (V.int x = V.int y) = decide (x = y) by rw [dec_int, Bool.beq_eq_decide_eq]]⟩
theorem c_eqB : CmpD X J .Eq eB eB fun i j => decide (i = j) := ⟨_, op_eq, fun x y v u G H own Q _ d1 d2 q => by
  rw [d1.bl, d2.bl]
  refine ⟨rfl, ?_⟩
  rwa [show decide (V.bl x = V.bl y) = decide (x = y) by rw [dec_bl, Bool.beq_eq_decide_eq]]⟩
theorem c_neB : CmpD X J .NotEq eB eB fun i j => !decide (i = j) := ⟨_, op_ne, fun x y v u G H own Q _ d1 d2 q => by
  rw [d1.bl, d2.bl]
  refine ⟨rfl, ?_⟩
  rwa [show decide (V.bl x = V.bl y) = decide (x = y) by rw [dec_bl, Bool.beq_eq_decide_eq]]⟩
theorem c_eqS : CmpD X J .Eq eS eS fun i j => decide (i = j) := ⟨_, op_eq, fun x y v u G H own Q _ d1 d2 q => by
  rw [d1.str, d2.str]
  refine ⟨rfl, ?_⟩
  rwa [show decide (V.str x = V.str y) = decide (x = y) by
    by_cases h : x = y
    · subst h; simp
    · rw [decide_eq_false h, decide_eq_false fun q => h (V.str.inj q)]]⟩
theorem c_neS : CmpD X J .NotEq eS eS fun i j => !decide (i = j) := ⟨_, op_ne, fun x y v u G H own Q _ d1 d2 q => by
  rw [d1.str, d2.str]
  refine ⟨rfl, ?_⟩
  rwa [show decide (V.str x = V.str y) = decide (x = y) by
    by_cases h : x = y
    · subst h; simp
    · rw [decide_eq_false h, decide_eq_false fun q => h (V.str.inj q)]]⟩
/-- x is None, x is not None, x of an optional kind -/
def isNon : D → Bool
  | .non => true
  | _ => false
theorem non_of {G H : Hp} {own : Addr → Option Nat} {v : V} {d : D} (h : DenB X J G H own v d) : decide (v = .non) = isNon d := by
  rcases h with h | ⟨p, vs, ds, rfl, rfl, _⟩
  · cases h <;> simp [isNon]
  · simp [isNon]
theorem eO_non {o : Option α} (hn : ∀ x, enc x ≠ .non) : isNon (eO enc o) = o.isNone := by
  cases o with
  | none => rfl
  | some x =>
    show isNon (enc x) = false
    have h := hn x
    cases q : enc x <;> first | rfl | exact absurd q h
theorem c_isN (hn : ∀ x, enc x ≠ .non) : CmpD X J .Is (eO enc) eU fun o _ => o.isNone := ⟨_, op_isN, fun x y v u G H own Q _ d1 d2 q => by
  have hu : u = .non := by
    rcases d2 with d | ⟨_, _, _, _, h, _⟩
    · cases d; rfl
    · cases h
  refine ⟨hu, ?_⟩
  rw [non_of d1, eO_non hn]; exact q⟩
theorem c_notN (hn : ∀ x, enc x ≠ .non) : CmpD X J .IsNot (eO enc) eU fun o _ => o.isSome := ⟨_, op_notN, fun x y v u G H own Q _ d1 d2 q => by
  have hu : u = .non := by
    rcases d2 with d | ⟨_, _, _, _, h, _⟩
    · cases d; rfl
    · cases h
  refine ⟨hu, ?_⟩
  rw [non_of d1, eO_non hn]
  cases x <;> exact q⟩
theorem inV_ints (i : Int) (ns : List Int) : inV (.int i) (ns.map V.int) = decide (i ∈ ns) := by
  unfold inV
  rw [List.any_map, Bool.eq_iff_iff, List.any_eq_true, decide_eq_true_eq]
  constructor
  · rintro ⟨n, hn, e⟩
    have e' : (n == i) = true := e
    rw [beq_iff_eq] at e'
    exact e' ▸ hn
  · intro h
    exact ⟨i, h, by show (i == i) = true; rw [beq_iff_eq]⟩
theorem flat_ints (ns : List Int) : (ns.map V.int).all flatV = true := by
  rw [List.all_map]
  exact List.all_eq_true.mpr fun _ _ => rfl
theorem c_in : CmpD X J .In eI (eL eI) fun i ns => decide (i ∈ ns) := ⟨_, op_in_seq, fun x y v u G H own Q sg d1 d2 q => by
  obtain ⟨p, vs, rfl, h1, h2⟩ := DenB.list sg d2
  rw [DenL.ints h2] at h1
  rw [d1.int]
  refine ⟨p, _, rfl, .inl (SqL.of h1), rfl, flat_ints y, ?_⟩
  rw [inV_ints]; exact q⟩
theorem c_notIn : CmpD X J .NotIn eI (eL eI) fun i ns => !decide (i ∈ ns) := ⟨_, op_notIn_seq, fun x y v u G H own Q sg d1 d2 q => by
  obtain ⟨p, vs, rfl, h1, h2⟩ := DenB.list sg d2
  rw [DenL.ints h2] at h1
  rw [d1.int]
  refine ⟨p, _, rfl, .inl (SqL.of h1), rfl, flat_ints y, ?_⟩
  rw [inV_ints]; exact q⟩
theorem DenB.tup {G H : Hp} {own : Addr → Option Nat} {v : V} {ds : List D} (e : Same G H) (d : DenB X J G H own v (.tup ds)) : ∃ a vs, v = .ref a ∧ SqT X.K H a vs ∧ DenL X.K J.ca G vs ds := by
  rcases d with d | ⟨_, _, _, _, h, _⟩
  · exact Den.tuple e d
  · cases h
theorem c_inT : CmpD X J .In eI (eT eI) fun i ns => decide (i ∈ ns) := ⟨_, op_in_seq, fun x y v u G H own Q sg d1 d2 q => by
  obtain ⟨p, vs, rfl, h1, h2⟩ := DenB.tup sg d2
  rw [DenL.ints h2] at h1
  rw [d1.int]
  refine ⟨p, _, rfl, .inr h1, rfl, flat_ints y, ?_⟩
  rw [inV_ints]; exact q⟩
theorem c_notInT : CmpD X J .NotIn eI (eT eI) fun i ns => !decide (i ∈ ns) := ⟨_, op_notIn_seq, fun x y v u G H own Q sg d1 d2 q => by
  obtain ⟨p, vs, rfl, h1, h2⟩ := DenB.tup sg d2
  rw [DenL.ints h2] at h1
  rw [d1.int]
  refine ⟨p, _, rfl, .inr h1, rfl, flat_ints y, ?_⟩
  rw [inV_ints]; exact q⟩

/-! ### tests, and, or, not -/
def DW (X : Cx) (J : Jx) (S : List Sl) (e : Expr) (n : M Bool) : Prop := PW X e (tT X J S n)
theorem t_val {m : M Bool} (h : DE X J S e eB m) (he : ∀ whole, isTrue e X.env whole = (do let v ← whole; standAt e.pos; holding [v] (truthy v)) := by intro _; rfl) : DT X J S e m :=
  pt_imp (pt_val h he) fun σ H Q ⟨G, own, ok, fin⟩ => by
    refine ⟨G, own, ok, ?_⟩
    cases m with
    | ok z => exact fun v G' H' g d => by cases d; exact ⟨z, rfl, fin G' H' g⟩
    | er x => exact fin
    | no => exact fin
theorem t_w {m : M Bool} (h : DW X J S e m) : DT X J S e m := h.pt
theorem w_and1 {m : M Bool} (h : DT X J S a m) : DW X J S (.BoolOp .And [a] pos) m := pw_and1 h
theorem w_or1 {m : M Bool} (h : DT X J S a m) : DW X J S (.BoolOp .Or [a] pos) m := pw_or1 h
theorem pw_imp {e : Expr} {t t' : TT} (h : PW X e t) (i : ∀ σ H Q, t' σ H Q → t σ H Q) : PW X e t' := ⟨fun wh pins s σ H Q I q => h.run wh pins s σ H Q I (i σ H Q q)⟩
theorem w_and {m n : M Bool} (h : DT X J S a m) (h2 : DW X J S (.BoolOp .And (b :: es) pos) n) : DW X J S (.BoolOp .And (a :: b :: es) pos) (mb m fun x => if x = true then n else .ok false) :=
  pw_imp (pw_and h h2) fun σ H Q ⟨G, own, ok, fin⟩ => T_bind FinT.wish ok fin fun x G1 H1 g ok1 r => by
    cases x with
    | true => exact ⟨G1, own, ok1, r⟩
    | false => exact r G1 H1 (Grow.refl ok1.gh)
theorem w_or {m n : M Bool} (h : DT X J S a m) (h2 : DW X J S (.BoolOp .Or (b :: es) pos) n) : DW X J S (.BoolOp .Or (a :: b :: es) pos) (mb m fun x => if x = true then .ok true else n) :=
  pw_imp (pw_or h h2) fun σ H Q ⟨G, own, ok, fin⟩ => T_bind FinT.wish ok fin fun x G1 H1 g ok1 r => by
    cases x with
    | false => exact ⟨G1, own, ok1, r⟩
    | true => exact r G1 H1 (Grow.refl ok1.gh)
theorem t_not {m : M Bool} (h : DT X J S a m) : DT X J S (.UnaryOp .Not a pos) (mb m fun x => .ok (!x)) :=
  pt_imp (pt_not h) fun σ H Q ⟨G, own, ok, fin⟩ => T_bind FinT.wish ok fin fun x G1 H1 g ok1 r => r G1 H1 (Grow.refl ok1.gh)
theorem e_one {m : M Bool} {o : BoolOp} (h : DE X J S a eB m) : DE X J S (.BoolOp o [a] pos) eB m := pe_one h
theorem e_and {m n : M Bool} (h : DE X J S a eB m) (h2 : DE X J S (.BoolOp .And (b :: es) pos) eB n) : DE X J S (.BoolOp .And (a :: b :: es) pos) eB (mb m fun x => if x = true then n else .ok false) :=
  pe_imp (pe_and h h2) fun σ H Q ⟨G, own, ok, fin⟩ => E_bind Fin.wish ok fin fun x v G1 H1 g ok1 d r => by
    cases d
    refine ⟨x, rfl, ?_⟩
    cases x with
    | true => exact ⟨G1, own, ok1, r⟩
    | false => exact r _ G1 H1 (Grow.refl ok1.gh) (.bl _)
theorem e_or {m n : M Bool} (h : DE X J S a eB m) (h2 : DE X J S (.BoolOp .Or (b :: es) pos) eB n) : DE X J S (.BoolOp .Or (a :: b :: es) pos) eB (mb m fun x => if x = true then .ok true else n) :=
  pe_imp (pe_or h h2) fun σ H Q ⟨G, own, ok, fin⟩ => E_bind Fin.wish ok fin fun x v G1 H1 g ok1 d r => by
    cases d
    refine ⟨x, rfl, ?_⟩
    cases x with
    | false => exact ⟨G1, own, ok1, r⟩
    | true => exact r _ G1 H1 (Grow.refl ok1.gh) (.bl _)
theorem e_not {m : M Bool} (h : DE X J S a eB m) : DE X J S (.UnaryOp .Not a pos) eB (mb m fun x => .ok (!x)) :=
  pe_imp (pe_not h) fun σ H Q ⟨G, own, ok, fin⟩ => E_bind Fin.wish ok fin fun x v G1 H1 g ok1 d r => by
    cases d
    exact ⟨x, rfl, r _ G1 H1 (Grow.refl ok1.gh) (.bl _)⟩
theorem e_ifE {mc : M Bool} {m n : M α} (hc : DT X J S c mc) (ha : DE X J S a enc m) (hb : DE X J S b enc n) : DE X J S (.IfExp c a b pos) enc (mb mc fun x => if x = true then m else n) :=
  pe_imp (pe_ifExp hc ha hb) fun σ H Q ⟨G, own, ok, fin⟩ => T_bind Fin.wish ok fin fun x G1 H1 g ok1 r => by
    cases x with
    | true => exact ⟨G1, own, ok1, r⟩
    | false => exact ⟨G1, own, ok1, r⟩
/-- a list as a test -/
theorem t_list {m : M (List α)} (ha : DB X J S a (eL enc) m) (he : ∀ whole, isTrue a X.env whole = (do let v ← whole; standAt a.pos; holding [v] (truthy v)) := by intro _; rfl) : DT X J S a (mb m fun xs => .ok (!xs.isEmpty)) :=
  pt_imp (pt_truth ha he) fun σ H Q ⟨G, own, ok, fin⟩ => B_bind FinT.wish ok fin fun xs v G1 H1 g ok1 d r => by
    obtain ⟨p, vs, rfl, h1, h2⟩ := DenB.list ok1.gh d
    refine ⟨_, .inl ⟨vs, SqL.of h1, rfl⟩, ?_⟩
    have hl := h2.length
    rw [List.length_map] at hl
    have e : (!vs.isEmpty) = !xs.isEmpty := by
      cases vs <;> cases xs <;> simp at hl ⊢
    rw [e]
    exact r G1 H1 (Grow.refl ok1.gh)

/-! ### items, cuts, fields -/
def ixM {α : Type} (xs : List α) (i : Int) : M α := match atI xs i with
  | some x => .ok x
  | none => .no
theorem DenL.atI {K : PySem.W.Frag} {ca : Str → Addr} {H : Hp} {vs : List V} {xs : List α} {i : Int} {x : α} (h : DenL K ca H vs (xs.map enc)) (e : atI xs i = some x) : ∃ v, L2.atI vs i = some v ∧ Den K ca H v (enc x) := by
  have hl := h.length
  rw [List.length_map] at hl
  unfold L2.atI at e ⊢
  rw [hl]
  cases q : ixN xs.length i with
  | none => rw [q] at e; cases e
  | some j =>
    rw [q] at e
    have e' : xs[j]? = some x := e
    exact h.get (by rw [List.getElem?_map, e']; rfl)
theorem e_ixL {m : M (List α)} (ha : DB X J S a (eL enc) m) (hb : DE X J S b eI mb') (hs : PlainIx b := by intro _ _; rfl) : DE X J S (.Subscript a b pos) enc (mb m fun xs => mb mb' fun i => ixM xs i) :=
  pe_imp (pe_ix ix_list ha hb hs) fun σ H Q ⟨G, own, ok, fin⟩ => B_bind Fin.wish ok fin fun xs v G1 H1 g ok1 d r => E_bind Fin.wish ok1 r fun i u G2 H2 g2 ok2 d2 r2 => by
    cases d2
    obtain ⟨p, vs, rfl, h1, h2⟩ := DenB.list ok2.gh (d.grow g2)
    unfold ixM at r2
    cases hx : L2.atI xs i with
    | none => rw [hx] at r2; exact r2.elim
    | some x =>
      rw [hx] at r2
      obtain ⟨w, e1, e2⟩ := h2.atI hx
      exact ⟨p, vs, i, w, rfl, rfl, SqL.of h1, e1, r2 w G2 H2 (Grow.refl ok2.gh) e2⟩
theorem e_ixT {m : M (List α)} (ha : DE X J S a (eT enc) m) (hb : DE X J S b eI mb') (hs : PlainIx b := by intro _ _; rfl) : DE X J S (.Subscript a b pos) enc (mb m fun xs => mb mb' fun i => ixM xs i) :=
  pe_imp (pe_ix ix_tup ha hb hs) fun σ H Q ⟨G, own, ok, fin⟩ => E_bind Fin.wish ok fin fun xs v G1 H1 g ok1 d r => E_bind Fin.wish ok1 r fun i u G2 H2 g2 ok2 d2 r2 => by
    cases d2
    obtain ⟨p, vs, rfl, h1, h2⟩ := Den.tuple (X := X) ok2.gh (d.mono g2.g)
    unfold ixM at r2
    cases hx : L2.atI xs i with
    | none => rw [hx] at r2; exact r2.elim
    | some x =>
      rw [hx] at r2
      obtain ⟨w, e1, e2⟩ := h2.atI hx
      exact ⟨p, vs, i, w, rfl, rfl, h1, e1, r2 w G2 H2 (Grow.refl ok2.gh) e2⟩
/-- a tuple of a written length, at a written place -/
theorem e_ixP {m : M α} {g : α → β} {ds : α → List D} (jj : Nat) {kk : Nat} {pk : Pos} (ha : DE X J S a enc m) (hd : ∀ x, enc x = .tup (ds x) ∧ (ds x)[jj]? = some (enb (g x))) : DE X J S (.Subscript a (.Constant (.int (jj : Int)) kk pk) pos) enb (mb m fun x => .ok (g x)) :=
  pe_imp (pe_ix ix_tup ha pe_int (by intro _ _; rfl)) fun σ H Q ⟨G, own, ok, fin⟩ => E_bind Fin.wish ok fin fun x v G1 H1 g1 ok1 d r => by
    rw [(hd x).1] at d
    obtain ⟨p, vs, rfl, h1, h2⟩ := Den.tuple (X := X) ok1.gh d
    obtain ⟨w, e1, e2⟩ := h2.get (hd x).2
    exact ⟨p, vs, jj, w, rfl, rfl, h1, atI_nat e1, r w G1 H1 (Grow.refl ok1.gh) e2⟩
def cut {α : Type} (xs : List α) (lo hi : Option Int) : List α := (xs.drop (HT.sIx xs.length 0 lo)).take (HT.sIx xs.length xs.length hi - HT.sIx xs.length 0 lo)
theorem DenL.cut {K : PySem.W.Frag} {ca : Str → Addr} {H : Hp} {vs : List V} {xs : List α} (lo hi : Option Int) (h : DenL K ca H vs (xs.map enc)) : DenL K ca H (cutV vs lo hi) ((DL.cut xs lo hi).map enc) := by
  have hl := h.length
  rw [List.length_map] at hl
  unfold cutV DL.cut
  rw [hl, List.map_take, List.map_drop]
  exact (h.drop _).take _
/-- a part of a slice -/
def FinP (X : Cx) (J : Jx) (n : M (Option Int)) (σ : L2.St) (G H : Hp) (Q : Option Int → Hp → Prop) : Prop := match n with
  | .ok z => ∀ G' H', Grow G H G' H' → Q z H'
  | .er x => ErK X.K J.ca x G H fun cls d H' => J.W cls d σ H'
  | .no => False
def tP (X : Cx) (J : Jx) (S : List Sl) (n : M (Option Int)) : TO := fun σ H Q => ∃ G own, OkX X J G H own σ S ∧ FinP X J n σ G H Q
def DP (X : Cx) (J : Jx) (S : List Sl) (e : Option Expr) (n : M (Option Int)) : Prop := PO X e (tP X J S n)
theorem po_imp {e : Option Expr} {t t' : TO} (h : PO X e t) (i : ∀ σ H Q, t' σ H Q → t σ H Q) : PO X e t' := ⟨fun pins s σ H Q I q => h.run pins s σ H Q I (i σ H Q q)⟩
theorem FinP.wish {σ : L2.St} {Q : Option Int → Hp → Prop} : Wish (fun n G H => FinP X J n σ G H Q) (fun cls d H' => J.W cls d σ H') X.K J.ca := ⟨fun n _ _ _ _ f g => by
  cases n with
  | ok z => exact fun G2 H2 g2 => f G2 H2 (g.trans g2)
  | er x => exact ErK.grow f g
  | no => exact f, fun _ _ _ f => f, fun _ _ f => f⟩
theorem P_bind {δ : Type} {R : M δ → Hp → Hp → Prop} {σ : L2.St} {G H : Hp} {own : Addr → Option Nat} {n : M (Option Int)} {f : Option Int → M δ} {P : Option Int → Hp → Prop} (w : Wish R (fun cls d H' => J.W cls d σ H') X.K J.ca) (ok : OkX X J G H own σ S) (r : R (mb n f) G H)
    (h : ∀ x G1 H1, Grow G H G1 H1 → OkX X J G1 H1 own σ S → R (f x) G1 H1 → P x H1) : tP X J S n σ H P := by
  refine ⟨G, own, ok, ?_⟩
  cases n with
  | ok x => exact fun G1 H1 g => h x G1 H1 g (ok.grow g) (w.1 _ _ _ _ _ r g)
  | er x => exact w.2.1 _ _ _ r
  | no => exact w.2.2 _ _ r
theorem p_none : DP X J S none (.ok none) := po_imp po_none fun σ H Q ⟨G, own, ok, fin⟩ => fin G H (Grow.refl ok.gh)
theorem p_some (h : DE X J S e eI ma) : DP X J S (some e) (mb ma fun i => .ok (some i)) := po_imp (po_some h) fun σ H Q ⟨G, own, ok, fin⟩ => E_bind FinP.wish ok fin fun i v G1 H1 g ok1 d r => by
  cases d
  exact ⟨i, rfl, r G1 H1 (Grow.refl ok1.gh)⟩
theorem o_cutL {m : M (List α)} {lo hi : Option Expr} {ml mh : M (Option Int)} {p2 : Pos} (ha : DB X J S a (eL enc) m) (hl : DP X J S lo ml) (hh : DP X J S hi mh) : DO X J S (.Subscript a (.Slice lo hi none p2) pos) enc (mb m fun xs => mb ml fun l => mb mh fun h => .ok (cut xs l h)) :=
  pe_imp (pe_slice sl_list ha hl hh) fun σ H Q ⟨G, own, ok, fin⟩ => B_bind FinO.wish ok fin fun xs v G1 H1 g ok1 d r => P_bind FinO.wish ok1 r fun l G2 H2 g2 ok2 r2 => P_bind FinO.wish ok2 r2 fun h G3 H3 g3 ok3 r3 => by
    obtain ⟨p, vs, rfl, h1, h2⟩ := DenB.list ok3.gh (d.grow (g2.trans g3))
    exact ⟨p, vs, rfl, SqL.of h1, fun q hq => r3 q _ G3 _ (Grow.allocO ok3.gh hq) hq upd_same (Same.free ok3.gh hq) (h2.cut l h)⟩
theorem e_cutT {m : M (List α)} {lo hi : Option Expr} {ml mh : M (Option Int)} {p2 : Pos} (ha : DE X J S a (eT enc) m) (hl : DP X J S lo ml) (hh : DP X J S hi mh) : DE X J S (.Subscript a (.Slice lo hi none p2) pos) (eT enc) (mb m fun xs => mb ml fun l => mb mh fun h => .ok (cut xs l h)) :=
  pe_imp (pe_slice sl_tupA ha hl hh) fun σ H Q ⟨G, own, ok, fin⟩ => E_bind Fin.wish ok fin fun xs v G1 H1 g ok1 d r => P_bind Fin.wish ok1 r fun l G2 H2 g2 ok2 r2 => P_bind Fin.wish ok2 r2 fun h G3 H3 g3 ok3 r3 => by
    obtain ⟨p, vs, rfl, h1, h2⟩ := Den.tuple (X := X) ok3.gh (d.mono (g2.trans g3).g)
    obtain ⟨p', vs', e, h1', h2'⟩ := Den.tup' (X := X) (d.mono (g2.trans g3).g)
    have hc := h2.cut l h
    refine ⟨p, vs, rfl, h1, fun hw => ?_, fun _ q hq => ?_⟩
    · refine r3 _ G3 H3 (Grow.refl ok3.gh) ?_
      have hl := h2.length
      rw [List.length_map] at hl
      have e1 : cut xs l h = xs := by
        unfold cut
        rw [← hl, hw.1, hw.2, List.drop_zero, Nat.sub_zero, hl]
        exact List.take_of_length_le (Nat.le_refl _)
      rw [e1]
      exact d.mono (g2.trans g3).g
    · exact r3 _ _ _ (Grow.alloc ok3.gh hq) (.tup (.of upd_same) (hc.mono (same_upd (Same.free ok3.gh hq))))
/-- o.f, o an object with these fields -/
theorem e_fld {f : Str} {m : M α} {g : α → β} {Cn : Str} {fs : α → List (Str × D)} (ha : DE X J S a enc m) (cl : Cls X.K (J.ca Cn)) (na : NoAttr X.K (J.ca Cn) f) (hd : ∀ x, enc x = .obj Cn (fs x) ∧ (fs x).lookup f = some (enb (g x)))
    (hb : attributeBase a f X.env (eval a X.env) = eval a X.env := by rfl) : DE X J S (.Attribute a f pos) enb (mb m fun x => .ok (g x)) :=
  pe_imp (pe_fld ha hb) fun σ H Q ⟨G, own, ok, fin⟩ => E_bind Fin.wish ok fin fun x v G1 H1 g1 ok1 d r => by
    rw [(hd x).1] at d
    cases d with
    | obj h t =>
      obtain ⟨w, e1, e2⟩ := t.lookup (hd x).2
      exact ⟨_, _, _, _, w, rfl, ok1.gh _ _ h, cl, na, e1, r w G1 H1 (Grow.refl ok1.gh) e2⟩

/-! ### arguments, displays -/
def FinA {β : Type} (X : Cx) (J : Jx) (encs : β → List D) (n : M β) (σ : L2.St) (G H : Hp) (Q : List V → Hp → Prop) : Prop := match n with
  | .ok z => ∀ vs G' H', Grow G H G' H' → DenL X.K J.ca G' vs (encs z) → Q vs H'
  | .er x => ErK X.K J.ca x G H fun cls d H' => J.W cls d σ H'
  | .no => False
def tAr {β : Type} (X : Cx) (J : Jx) (S : List Sl) (encs : β → List D) (n : M β) : TA := fun σ H Q => ∃ G own, OkX X J G H own σ S ∧ FinA X J encs n σ G H Q
def DA {β : Type} (X : Cx) (J : Jx) (S : List Sl) (es : List Expr) (encs : β → List D) (n : M β) : Prop := PA X es (tAr X J S encs n)
theorem pa_imp {es : List Expr} {t t' : TA} (h : PA X es t) (i : ∀ σ H Q, t' σ H Q → t σ H Q) : PA X es t' := ⟨fun ps pins s σ H Q I q => h.run ps pins s σ H Q I (i σ H Q q)⟩
theorem FinA.wish {encs : β → List D} {σ : L2.St} {Q : List V → Hp → Prop} : Wish (fun n G H => FinA X J encs n σ G H Q) (fun cls d H' => J.W cls d σ H') X.K J.ca := ⟨fun n _ _ _ _ f g => by
  cases n with
  | ok z => exact fun vs G2 H2 g2 d => f vs G2 H2 (g.trans g2) d
  | er x => exact ErK.grow f g
  | no => exact f, fun _ _ _ f => f, fun _ _ f => f⟩
theorem A_bind {δ : Type} {R : M δ → Hp → Hp → Prop} {σ : L2.St} {G H : Hp} {own : Addr → Option Nat} {encs : β → List D} {n : M β} {f : β → M δ} {P : List V → Hp → Prop} (w : Wish R (fun cls d H' => J.W cls d σ H') X.K J.ca) (ok : OkX X J G H own σ S) (r : R (mb n f) G H)
    (h : ∀ x vs G1 H1, Grow G H G1 H1 → OkX X J G1 H1 own σ S → DenL X.K J.ca G1 vs (encs x) → R (f x) G1 H1 → P vs H1) : tAr X J S encs n σ H P := by
  refine ⟨G, own, ok, ?_⟩
  cases n with
  | ok x => exact fun vs G1 H1 g d => h x vs G1 H1 g (ok.grow g) d (w.1 _ _ _ _ _ r g)
  | er x => exact w.2.1 _ _ _ r
  | no => exact w.2.2 _ _ r
abbrev aN : Unit → List D := fun _ => []
abbrev aC (e : α → D) (es : β → List D) : α × β → List D := fun p => e p.1 :: es p.2
theorem a_nil : DA X J S [] aN (.ok ()) := pa_imp pa_nil fun σ H Q ⟨G, own, ok, fin⟩ => fin [] G H (Grow.refl ok.gh) .nil
theorem a_cons {encs : β → List D} {m : M α} {n : M β} (h : DE X J S a enc m) (h2 : DA X J S es encs n) (hs : starEach (a :: es) X.env = (false, eval a X.env) :: starEach es X.env := by rfl) : DA X J S (a :: es) (aC enc encs) (mb m fun x => mb n fun y => .ok (x, y)) :=
  pa_imp (pa_cons h h2 hs) fun σ H Q ⟨G, own, ok, fin⟩ => E_bind FinA.wish ok fin fun x v G1 H1 g1 ok1 d r => A_bind FinA.wish ok1 r fun y vs G2 H2 g2 ok2 d2 r2 =>
    r2 _ G2 H2 (Grow.refl ok2.gh) (.cons (d.mono g2.g) d2)
/-- a display of like items -/
theorem o_lst {encs : β → List D} {n : M β} {g : β → List α} (h : DA X J S es encs n) (hg : ∀ z, encs z = (g z).map enc) (hl : ∀ z, (g z).length ≤ sizeLine) : DO X J S (.List es pos) enc (mb n fun z => .ok (g z)) :=
  pe_imp (pe_lst h) fun σ H Q ⟨G, own, ok, fin⟩ => A_bind FinO.wish ok fin fun z vs G1 H1 g1 ok1 d r => by
    rw [hg z] at d
    have e := d.length
    rw [List.length_map] at e
    exact ⟨by rw [e]; exact hl z, fun q hq => r q vs G1 _ (Grow.allocO ok1.gh hq) hq upd_same (Same.free ok1.gh hq) d⟩
/-- a tuple of a written length -/
theorem e_tup {encs : β → List D} {n : M β} {kk : Nat} (h : DA X J S es encs n) (hl : ∀ z, (encs z).length ≤ sizeLine) : DE X J S (.Tuple es kk pos) (fun z => .tup (encs z)) n :=
  pe_imp (pe_tup h) fun σ H Q ⟨G, own, ok, fin⟩ => A_bind (f := .ok) (Fin.wish (enc := fun z => D.tup (encs z)) (Q := Q)) ok (by cases n <;> exact fin) fun z vs G1 H1 g1 ok1 d r => by
    exact ⟨by rw [d.length]; exact hl z, fun q hq => r _ _ _ (Grow.alloc ok1.gh hq) (.tup (.of upd_same) (d.mono (same_upd (Same.free ok1.gh hq))))⟩

/-! ### arguments of calls: frozen, or lists lent -/
def FinX {β : Type} (X : Cx) (J : Jx) (encs : β → List Sl) (n : M β) (σ : L2.St) (G H : Hp) (Q : List V → Hp → Prop) : Prop := match n with
  | .ok z => ∀ vs G' H', Grow G H G' H' → ArgL X.K J.ca G' H' vs (encs z) → Q vs H'
  | .er x => ErK X.K J.ca x G H fun cls d H' => J.W cls d σ H'
  | .no => False
def tXr {β : Type} (X : Cx) (J : Jx) (S : List Sl) (encs : β → List Sl) (n : M β) : TA := fun σ H Q => ∃ G own, OkX X J G H own σ S ∧ FinX X J encs n σ G H Q
def DX {β : Type} (X : Cx) (J : Jx) (S : List Sl) (es : List Expr) (encs : β → List Sl) (n : M β) : Prop := PA X es (tXr X J S encs n)
theorem FinX.wish {encs : β → List Sl} {σ : L2.St} {Q : List V → Hp → Prop} : Wish (fun n G H => FinX X J encs n σ G H Q) (fun cls d H' => J.W cls d σ H') X.K J.ca := ⟨fun n _ _ _ _ f g => by
  cases n with
  | ok z => exact fun vs G2 H2 g2 d => f vs G2 H2 (g.trans g2) d
  | er x => exact ErK.grow f g
  | no => exact f, fun _ _ _ f => f, fun _ _ f => f⟩
theorem X_bind {δ : Type} {R : M δ → Hp → Hp → Prop} {σ : L2.St} {G H : Hp} {own : Addr → Option Nat} {encs : β → List Sl} {n : M β} {f : β → M δ} {P : List V → Hp → Prop} (w : Wish R (fun cls d H' => J.W cls d σ H') X.K J.ca) (ok : OkX X J G H own σ S) (r : R (mb n f) G H)
    (h : ∀ x vs G1 H1, Grow G H G1 H1 → OkX X J G1 H1 own σ S → ArgL X.K J.ca G1 H1 vs (encs x) → R (f x) G1 H1 → P vs H1) : tXr X J S encs n σ H P := by
  refine ⟨G, own, ok, ?_⟩
  cases n with
  | ok x => exact fun vs G1 H1 g d => h x vs G1 H1 g (ok.grow g) d (w.1 _ _ _ _ _ r g)
  | er x => exact w.2.1 _ _ _ r
  | no => exact w.2.2 _ _ r
abbrev xN : Unit → List Sl := fun _ => []
abbrev xC (e : α → D) (es : β → List Sl) : α × β → List Sl := fun p => .fr (e p.1) :: es p.2
abbrev xL (e : α → D) (es : β → List Sl) : List α × β → List Sl := fun p => .ln (p.1.map e) :: es p.2
theorem x_nil : DX X J S [] xN (.ok ()) := pa_imp pa_nil fun σ H Q ⟨G, own, ok, fin⟩ => fin [] G H (Grow.refl ok.gh) .nil
theorem x_cons {encs : β → List Sl} {m : M α} {n : M β} (h : DE X J S a enc m) (h2 : DX X J S es encs n) (hs : starEach (a :: es) X.env = (false, eval a X.env) :: starEach es X.env := by rfl) : DX X J S (a :: es) (xC enc encs) (mb m fun x => mb n fun y => .ok (x, y)) :=
  pa_imp (pa_cons h h2 hs) fun σ H Q ⟨G, own, ok, fin⟩ => E_bind FinX.wish ok fin fun x v G1 H1 g1 ok1 d r => X_bind FinX.wish ok1 r fun y vs G2 H2 g2 ok2 d2 r2 =>
    r2 _ G2 H2 (Grow.refl ok2.gh) (.cons (d.mono g2.g) d2)
theorem x_consL {encs : β → List Sl} {m : M (List α)} {n : M β} (h : DB X J S a (eL enc) m) (h2 : DX X J S es encs n) (hs : starEach (a :: es) X.env = (false, eval a X.env) :: starEach es X.env := by rfl) : DX X J S (a :: es) (xL enc encs) (mb m fun x => mb n fun y => .ok (x, y)) :=
  pa_imp (pa_cons h h2 hs) fun σ H Q ⟨G, own, ok, fin⟩ => B_bind FinX.wish ok fin fun x v G1 H1 g1 ok1 d r => X_bind FinX.wish ok1 r fun y vs G2 H2 g2 ok2 d2 r2 => by
    obtain ⟨p, ws, rfl, h1, h3⟩ := DenB.list ok1.gh d
    exact r2 _ G2 H2 (Grow.refl ok2.gh) (.consL (g2.h _ _ h1) (h3.mono g2.g) d2)

/-! ### calls of defs -/
def fnV {β γ ρ : Type} (d : M ρ) (n : M (Out β γ ρ)) : M ρ := match n with
  | .ok (.nx _) => d
  | .ok (.rt r) => .ok r
  | .ok _ => .no
  | .er x => .er x
  | .no => .no
@[simp] theorem fnV_nx {β γ ρ : Type} (d : M ρ) (b : β) : fnV d (.ok (.nx b) : M (Out β γ ρ)) = d := rfl
@[simp] theorem fnV_rt {β γ ρ : Type} (d : M ρ) (b : ρ) : fnV d (.ok (.rt b) : M (Out β γ ρ)) = .ok b := rfl
@[simp] theorem fnV_er {β γ ρ : Type} (d : M ρ) (b : Ex) : fnV d (.er b : M (Out β γ ρ)) = .er b := rfl
def spE (K : PySem.W.Frag) (ca : Str → Addr) {α ρ : Type} (encA : α → List Sl) (enc : ρ → D) (code : α → M ρ) : Sp := spF K ca encA fun a => mb (code a) fun r => .ok (.fr (enc r))
def spO (K : PySem.W.Frag) (ca : Str → Addr) {α ρ : Type} (encA : α → List Sl) (enc : ρ → D) (code : α → M (List ρ)) : Sp := spF K ca encA fun a => mb (code a) fun r => .ok (.ow (r.map enc))
theorem fnO_fnV {R : ρ → RV} {n : M (Out β γ ρ)} {d : M ρ} (hd : d = .no ∨ ∃ r, d = .ok r ∧ R r = .fr .non) : mb (fnV d n) (fun r => .ok (R r)) = fnO R n ∨ mb (fnV d n) (fun r => .ok (R r)) = .no := by
  cases n with
  | ok o =>
    cases o with
    | nx b =>
      rcases hd with rfl | ⟨r, rfl, h⟩
      · exact .inr rfl
      · left; show M.ok (R r) = _; rw [h]; rfl
    | rt r => exact .inl rfl
    | bk c => exact .inl rfl
    | ct c => exact .inl rfl
  | er x => exact .inl rfl
  | no => exact .inl rfl
theorem sp_imp {K : PySem.W.Frag} {ca : Str → Addr} {encA : α → List Sl} {c1 c2 : α → M RV} (h : ∀ a, c2 a = c1 a ∨ c2 a = .no) : ∀ vs H Q E, spF K ca encA c2 vs H Q E → spF K ca encA c1 vs H Q E := fun vs H Q E ⟨a, G, e, d, r⟩ => by
  rcases h a with q | q
  · rw [q] at r; exact ⟨a, G, e, d, r⟩
  · rw [q] at r; exact r.elim
end

section
variable {α β γ δ ρ : Type} {S : List Sl} {enc : α → D} {enb : β → D} {enr : ρ → D} {a b c e : Expr} {es : List Expr} {pos p : Pos} {k j : Nat} {f : Addr} {fd : FuncData} {ps : List Str} {x : Str} {encs : α → List Sl}
/-- a def by its frozen answer -/
theorem fn_E {P : Program} {w : World} {K : PySem.W.Frag} {mg : Str → Option Value} {base : Heap} {ca : Str → Addr} {code : α → M (Out β γ ρ)} {d : M ρ} (h : FnOk P w K mg base (L2N.CX P w) k f fd ps (spF K ca encs fun a => fnO (fun r => .fr (enr r)) (code a)))
    (hd : d = .no ∨ ∃ r, d = .ok r ∧ enr r = .non) : FnOk P w K mg base (L2N.CX P w) k f fd ps (spE K ca encs enr fun a => fnV d (code a)) :=
  h.imp (sp_imp fun a => fnO_fnV (by rcases hd with h | ⟨r, h1, h2⟩; exact .inl h; exact .inr ⟨r, h1, by rw [h2]⟩))
theorem fn_O {P : Program} {w : World} {K : PySem.W.Frag} {mg : Str → Option Value} {base : Heap} {ca : Str → Addr} {code : α → M (Out β γ (List ρ))} (h : FnOk P w K mg base (L2N.CX P w) k f fd ps (spF K ca encs fun a => fnO (fun r => .ow (r.map enr)) (code a))) :
    FnOk P w K mg base (L2N.CX P w) k f fd ps (spO K ca encs enr fun a => fnV .no (code a)) := h.imp (sp_imp fun a => fnO_fnV (.inl rfl))
theorem e_call {code : α → M ρ} {n : M α} (C : CxD X J k) (hj : j ≤ k) (F : FnOk X.prog X.w X.K X.mg X.base (L2N.CX X.prog X.w) j f fd ps (spE X.K J.ca encs enr code)) (hm : X.mg x = some (.ref f)) (hk : PySem.W.keepIn X.K (.ref f) = true) (hb : Binds X.K fd ps [])
    (h : DX X J S (e :: es) encs n) (hg : Gl X x := by rfl) (hdb : (x == ("__debug__" : Str)) = false := by decide) (he : starEach (e :: es) X.env = (false, eval e X.env) :: starEach es X.env := by rfl) (hpl : (backTo pos (starEach es X.env)).any (·.1) = false := by rfl) :
    DE X J S (.Call (.Name x p) (e :: es) [] pos) enr (mb n code) :=
  pe_imp (pe_callSD (F.mono hj) C.room hg hm hk hb .nil (fun σ => L2N.passAt C.tk σ) h hdb he hpl) fun σ H Q ⟨G, own, ok, fin⟩ => X_bind Fin.wish ok fin fun z vs G1 H1 g1 ok1 d r => by
    show spE X.K J.ca encs enr code (vs ++ []) H1 Q _
    rw [List.append_nil]
    refine ⟨z, G1, ok1.gh, d, ?_⟩
    cases hc : code z with
    | ok y => rw [hc] at r; show spR X.K J.ca G1 H1 (mb (code z) _) Q _; rw [hc]; exact fun v G' H' g dv => r v G' H' g dv
    | er q => rw [hc] at r; show spR X.K J.ca G1 H1 (mb (code z) _) Q _; rw [hc]; exact fun cls dd G' H' g ra => r cls dd G' H' g ra
    | no => rw [hc] at r; exact r.elim
theorem o_call {code : α → M (List ρ)} {n : M α} (C : CxD X J k) (hj : j ≤ k) (F : FnOk X.prog X.w X.K X.mg X.base (L2N.CX X.prog X.w) j f fd ps (spO X.K J.ca encs enr code)) (hm : X.mg x = some (.ref f)) (hk : PySem.W.keepIn X.K (.ref f) = true) (hb : Binds X.K fd ps [])
    (h : DX X J S (e :: es) encs n) (hg : Gl X x := by rfl) (hdb : (x == ("__debug__" : Str)) = false := by decide) (he : starEach (e :: es) X.env = (false, eval e X.env) :: starEach es X.env := by rfl) (hpl : (backTo pos (starEach es X.env)).any (·.1) = false := by rfl) :
    DO X J S (.Call (.Name x p) (e :: es) [] pos) enr (mb n code) :=
  pe_imp (pe_callSD (F.mono hj) C.room hg hm hk hb .nil (fun σ => L2N.passAt C.tk σ) h hdb he hpl) fun σ H Q ⟨G, own, ok, fin⟩ => X_bind FinO.wish ok fin fun z vs G1 H1 g1 ok1 d r => by
    show spO X.K J.ca encs enr code (vs ++ []) H1 Q _
    rw [List.append_nil]
    refine ⟨z, G1, ok1.gh, d, ?_⟩
    cases hc : code z with
    | ok y => rw [hc] at r; show spR X.K J.ca G1 H1 (mb (code z) _) Q _; rw [hc]; exact fun p ws G' H' g h1 h2 h3 h4 => r p ws G' H' g h1 h2 h3 h4
    | er q => rw [hc] at r; show spR X.K J.ca G1 H1 (mb (code z) _) Q _; rw [hc]; exact fun cls dd G' H' g ra => r cls dd G' H' g ra
    | no => rw [hc] at r; exact r.elim
end
end DL

namespace DL
open PySem PySem.Spec PyProof.Rows L2
variable {X : Cx} {J : Jx}
section
variable {α β γ δ ρ : Type} {S : List Sl} {enc : α → D} {enb : β → D} {a b c e : Expr} {es : List Expr} {pos p : Pos} {k j : Nat}

/-! ### comprehensions -/
def filL (c : α → M Bool) (f : α → M β) : List α → M (List β)
  | [] => .ok []
  | x :: xs => match c x with
    | .ok true => (match f x with
      | .ok y => mb (filL c f xs) fun ys => .ok (y :: ys)
      | _ => .no)
    | .ok false => filL c f xs
    | _ => .no
def mapL (f : α → M β) : List α → M (List β)
  | [] => .ok []
  | x :: xs => match f x with
    | .ok y => mb (mapL f xs) fun ys => .ok (y :: ys)
    | _ => .no
def lcM (c : α → M Bool) (f : α → M β) (xs : List α) : M (List β) := if xs.length ≤ line then filL c f xs else .no
def mapC (f : α → M β) (xs : List α) : M (List β) := if xs.length ≤ line then mapL f xs else .no
theorem filL_map (f : α → M β) : ∀ xs, filL (fun _ => .ok true) f xs = mapL f xs
  | [] => rfl
  | x :: xs => by
    unfold filL mapL
    rw [filL_map f xs]
theorem mapL_ok {f : α → M β} {g : α → β} : ∀ {xs : List α}, (∀ x ∈ xs, f x = .ok (g x)) → mapL f xs = .ok (xs.map g)
  | [], _ => rfl
  | x :: xs, h => by
    unfold mapL
    rw [h x List.mem_cons_self, mapL_ok fun y hy => h y (List.mem_cons_of_mem _ hy)]
    rfl
theorem mapC_ok {f : α → M β} {g : α → β} {xs : List α} (hl : xs.length ≤ line) (h : ∀ x ∈ xs, f x = .ok (g x)) : mapC f xs = .ok (xs.map g) := by
  unfold mapC
  rw [if_pos hl, mapL_ok h]
theorem filL_ok {c : α → M Bool} {q : α → Bool} {f : α → M β} {g : α → β} : ∀ {xs : List α}, (∀ x ∈ xs, c x = .ok (q x)) → (∀ x ∈ xs, q x = true → f x = .ok (g x)) → filL c f xs = .ok ((xs.filter q).map g)
  | [], _, _ => rfl
  | x :: xs, h, h2 => by
    unfold filL
    rw [h x List.mem_cons_self, filL_ok (fun y hy => h y (List.mem_cons_of_mem _ hy)) fun y hy => h2 y (List.mem_cons_of_mem _ hy)]
    cases hq : q x with
    | true =>
      rw [List.filter_cons_of_pos hq, h2 x List.mem_cons_self hq]
      rfl
    | false =>
      rw [List.filter_cons_of_neg (by rw [hq]; decide)]
theorem lcM_ok {c : α → M Bool} {q : α → Bool} {f : α → M β} {g : α → β} {xs : List α} (hl : xs.length ≤ line) (h : ∀ x ∈ xs, c x = .ok (q x)) (h2 : ∀ x ∈ xs, q x = true → f x = .ok (g x)) : lcM c f xs = .ok ((xs.filter q).map g) := by
  unfold lcM
  rw [if_pos hl, filL_ok h h2]

/-- the block's names forgotten -/
def wipeS (S : List Sl) : List Nat → List Sl
  | [] => S
  | v :: vs => (wipeS S vs).set v .un
theorem wipeS_length (S : List Sl) : ∀ vs, (wipeS S vs).length = S.length
  | [] => rfl
  | v :: vs => by unfold wipeS; rw [List.length_set, wipeS_length S vs]
theorem wipeS_some {S : List Sl} {i : Nat} {s : Sl} : ∀ {vs : List Nat}, (wipeS S vs)[i]? = some s → s = .un ∨ (S[i]? = some s ∧ i ∉ vs)
  | [], h => .inr ⟨h, by simp⟩
  | v :: vs, h => by
    unfold wipeS at h
    by_cases hi : v = i
    · subst hi
      by_cases hv : v < (wipeS S vs).length
      · rw [List.getElem?_set_self hv] at h; cases h; exact .inl rfl
      · rw [List.getElem?_eq_none (by simpa using hv)] at h; cases h
    · rw [List.getElem?_set_ne hi] at h
      rcases wipeS_some h with h | ⟨h1, h2⟩
      · exact .inl h
      · exact .inr ⟨h1, by simp only [List.mem_cons, not_or]; exact ⟨fun e => hi e.symm, h2⟩⟩
theorem Ok.wipe {K : PySem.W.Frag} {ca : Str → Addr} {B : Bs} {G H : Hp} {own : Addr → Option Nat} {σ : L2.St} (k : Ok K ca B G H own σ S) (vs : List Nat) : Ok K ca B G H own (L2.wipe σ vs) (wipeS S vs) := by
  refine ⟨by rw [wipeS_length, wipe_length]; exact k.ln, k.gh, k.g0, k.h0, k.gn, k.ow, fun i s e => ?_⟩
  rcases wipeS_some e with rfl | ⟨h1, h2⟩
  · trivial
  · rw [wipe_out h2]; exact k.sl i s h1
theorem wipe_set {σ : L2.St} {i : Nat} {v : Option V} {vs : List Nat} (h : i ∈ vs) : L2.wipe ((L2.wipe σ vs).set i v) vs = L2.wipe σ vs := by
  have key : ∀ (τ : L2.St) (us : List Nat) (m : Nat), (L2.wipe τ us)[m]? = if m ∈ us then (if m < τ.length then some none else none) else τ[m]? := by
    intro τ us
    induction us with
    | nil => intro m; simp [L2.wipe]
    | cons u us ih =>
      intro m
      unfold L2.wipe
      by_cases hm : u = m
      · subst hm
        by_cases hl : u < τ.length
        · rw [List.getElem?_set_self (by rw [wipe_length]; exact hl)]; simp [hl]
        · rw [List.getElem?_eq_none (by rw [List.length_set, wipe_length]; omega)]; simp [hl]
      · rw [List.getElem?_set_ne hm, ih m]
        have : (m ∈ u :: us) = (m ∈ us) := by simp [Ne.symm hm]
        simp only [this]
  apply List.ext_getElem?
  intro m
  rw [key, key]
  by_cases hm : m ∈ vs
  · simp [hm, wipe_length]
  · have : i ≠ m := fun e => hm (e ▸ h)
    rw [if_neg hm, List.getElem?_set_ne this, key]
theorem Ok.free {K : PySem.W.Frag} {ca : Str → Addr} {B : Bs} {G H : Hp} {own : Addr → Option Nat} {σ : L2.St} {p : Addr} {o : HO} (k : Ok K ca B G H own σ S) (hg : G p = none) (hb : B.H0 p = none) (ho : own p = none) (hx : ∀ (dd : Addr) (ws : List (Str × V)), H dd = some (.xd ws) → dd ≠ p) : Ok K ca B G (upd H p o) own σ S := by
  refine ⟨k.ln, fun b u e => ?_, k.g0, fun b u e => ?_, k.gn, fun b i e => ?_, fun i s e => ?_⟩
  · rw [upd_ne fun z => by rw [z, hg] at e; cases e]; exact k.gh b u e
  · rw [upd_ne fun z => by rw [z, hb] at e; cases e]; exact k.h0 b u e
  · obtain ⟨x, y, z⟩ := k.ow b i e
    refine ⟨x, y, ?_⟩
    rw [upd_ne fun q => by rw [q, ho] at e; cases e]; exact z
  · have q := k.sl i s e
    cases s with
    | un => trivial
    | fr d => exact q
    | ln ds => exact q
    | ow ds =>
      obtain ⟨r, vs, h1, h2, h3, h4⟩ := q
      exact ⟨r, vs, h1, h2, by rw [upd_ne fun z => by rw [z, ho] at h2; cases h2]; exact h3, h4⟩
    | nw r C fs =>
      obtain ⟨h1, h2, dx, vs, h3, h4⟩ := q
      exact ⟨h1, h2, dx, vs, by rw [upd_ne fun z => by rw [z, ho] at h2; cases h2]; exact h3, h4⟩
    | xc a d fs =>
      obtain ⟨h1, h2⟩ := q
      rcases h2 with h2 | ⟨dd, ws, h2, h3, h4⟩
      · exact ⟨h1, .inl h2⟩
      · exact ⟨h1, .inr ⟨dd, ws, h2, by rw [upd_ne (hx dd ws h3)]; exact h3, h4⟩⟩
    | dk kvs =>
      obtain ⟨r, h1, h2, h3⟩ := q
      exact ⟨r, h1, h2, by rw [upd_ne fun z => by rw [z, ho] at h2; cases h2]; exact h3⟩
    | op o d =>
      obtain ⟨t, w, u, h1, h2, h3, h4⟩ := q
      refine ⟨t, w, u, h1, h2, h3, fun ds e => ?_⟩
      obtain ⟨r, vs, e1, e2, e3, e4⟩ := h4 ds e
      exact ⟨r, vs, e1, e2, by rw [upd_ne fun z => by rw [z, ho] at e2; cases e2]; exact e3, e4⟩

abbrev jb (J : Jx) : Jx := ⟨J.ca, fun _ _ _ _ => False, J.B, []⟩
def GSem (X : Cx) (J : Jx) {α : Type} (enc : α → D) (T : α → List Sl → List Sl) (vs : List Nat) (g : TG) : Prop := ∀ (x : α) (v : V) (G H : Hp) (own : Addr → Option Nat) (σ : L2.St) (S : List Sl) (Q : L2.St → Hp → Prop), Ok X.K J.ca J.B G H own (L2.wipe σ vs) S → Den X.K J.ca G v (enc x) →
  (∀ σ' own', Ok X.K J.ca J.B G H own' σ' (T x S) → L2.wipe σ' vs = L2.wipe σ vs → own' = own → Q σ' H) → g v (L2.wipe σ vs) H Q
theorem gs_name {i : Nat} {vs : List Nat} (h : i ∈ vs) : GSem X J enc (fun z S => S.set i (.fr (enc z))) vs (gName i) := fun x v G H own σ S Q ok d q => q _ own (ok.setF d) (wipe_set h) rfl
theorem takesN : L2N.Takes X (fun _ _ _ _ => False) := fun _ _ ⟨_, _, _, _, _, _, _, _, _, _, _, _, _, _, _, _, w⟩ => w.elim
theorem CxD.blk (C : CxD X J k) (s : Shared) (H : Hp) (scope : Scope) (cenv : Env) (fp : List Addr) : CxD (X.blk s H scope cenv fp) (jb J) k := ⟨C.calm, takesN, PassesOwn.never, C.room.mono (Nat.le_refl _), C.nd⟩
theorem lc_imp {ovs : List Nat} {T : α → List Sl → List Sl} {g : TG} {m : M (List α)} {mt : α → M Bool} {f : α → M β} {σ : L2.St} {H : Hp} {Q : VK} (hgs : GSem X J enc T ovs g) (hO : tO X J S enb (mb m fun xs => lcM mt f xs) σ H Q) :
    tLc (tI X J S enc m) g (fun σ H Q => ∃ x, tT X (jb J) (T x (wipeS S ovs)) (mt x) σ H Q) (fun σ H Q => ∃ x, tE X (jb J) (T x (wipeS S ovs)) enb (f x) σ H Q) ovs σ H Q := by
  obtain ⟨G, own, okk, fin⟩ := hO
  refine ⟨G, own, okk, ?_⟩
  cases m with
  | er x => exact fin
  | no => exact fin
  | ok zs =>
    intro I G1 H1 gr io D hD
    have fin : FinO X J enb (lcM mt f zs) σ G H Q := fin
    unfold lcM at fin
    by_cases hz : zs.length ≤ line
    · rw [if_pos hz] at fin
      have ok1 := okk.grow gr
      have hDG : G1 D = none := Same.free ok1.gh hD
      have hDB : J.B.H0 D = none := Same.free ok1.h0 hD
      have hDo : own D = none := by
        cases q : own D with
        | none => rfl
        | some i => exact absurd hD (ok1.ow D i q).2.2
      have hDH : H D = none := Same.free gr.h hD
      -- what stays: the items done so far
      refine ⟨fun i m H2 => m = zs.length - i ∧ i ≤ zs.length ∧ ∃ (G2 : Hp) (acc : List V) (done : List β), OkX X J G2 H2 own σ S ∧ Grow G1 H1 G2 H2 ∧ H2 D = some (.lst acc) ∧ G2 D = none ∧ acc.length ≤ i ∧ DenL X.K J.ca G2 acc (done.map enb) ∧
        FinO X J enb (mb (filL mt f (zs.drop i)) fun ys => .ok (done ++ ys)) σ G H Q, ⟨_, rfl, Nat.zero_le _, G1, [], [], ok1.free hDG hDB hDo (fun dd ws e z => by rw [z, hD] at e; cases e), Grow.allocO ok1.gh hD, upd_same, hDG, Nat.le_refl _, .nil, ?_⟩, ?_⟩
      · rw [List.drop_zero]
        cases q : filL mt f zs with
        | ok ys => rw [q] at fin; exact fin
        | er x => rw [q] at fin; exact fin
        | no => rw [q] at fin; exact fin
      · rintro i m H2 ⟨rfl, hile, G2, acc, done, ok2, g12, hacc, hG2, hal, den, fin2⟩
        by_cases hlt : i < zs.length
        · have hd : (zs.map enc)[i]? = some (enc zs[i]) := by rw [List.getElem?_map, List.getElem?_eq_getElem hlt]; rfl
          obtain ⟨go, yld⟩ := (io i H2 G2 ok2.h0 g12.g ok2.gh).1 _ hd
          rw [List.drop_eq_getElem_cons hlt] at fin2
          refine .inr ⟨go, fun H' => zs.length - (i + 1) = zs.length - (i + 1) ∧ i + 1 ≤ zs.length ∧ ∃ (G2 : Hp) (acc : List V) (done : List β), OkX X J G2 H' own σ S ∧ Grow G1 H1 G2 H' ∧ H' D = some (.lst acc) ∧ G2 D = none ∧ acc.length ≤ i + 1 ∧ DenL X.K J.ca G2 acc (done.map enb) ∧
            FinO X J enb (mb (filL mt f (zs.drop (i + 1))) fun ys => .ok (done ++ ys)) σ G H Q, fun H' n => ⟨_, by omega, n⟩, fun x H3 y => ?_⟩
          obtain ⟨G3, gr3, denx⟩ := yld x H3 y
          have ok3 := ok2.grow gr3
          have hG3 : G3 D = none := by
            rw [gr3.n D (by rw [hacc]; exact fun z => by cases z)]; exact hG2
          refine hgs zs[i] x G3 H3 own σ (wipeS S ovs) _ (ok3.wipe _) denx fun σ4 own4 ok4 hw eo => ⟨hw, ?_⟩
          subst eo
          unfold filL at fin2
          cases hmt : mt zs[i] with
          | er q => rw [hmt] at fin2; exact fin2.elim
          | no => rw [hmt] at fin2; exact fin2.elim
          | ok bt =>
            rw [hmt] at fin2
            refine ⟨zs[i], G3, own4, ok4, ?_⟩
            rw [hmt]
            intro G5 H5 g35
            have g25 := gr3.trans g35
            cases bt with
            | false =>
              simp only [Bool.false_eq_true, if_false]
              exact ⟨trivial, hlt, G5, acc, done, ok2.grow g25, g12.trans g25, g25.h _ _ hacc, by rw [g25.n D (by rw [hacc]; exact fun z => by cases z)]; exact hG2, Nat.le_succ_of_le hal, den.mono g25.g, fin2⟩
            | true =>
              simp only [if_true]
              cases hf : f zs[i] with
              | er q => rw [hf] at fin2; exact fin2.elim
              | no => rw [hf] at fin2; exact fin2.elim
              | ok y =>
                rw [hf] at fin2
                refine ⟨zs[i], G5, own4, ok4.grow g35, ?_⟩
                rw [hf]
                intro v G6 H6 g56 dv
                have g26 := g25.trans g56
                have hG6 : G6 D = none := by rw [g26.n D (by rw [hacc]; exact fun z => by cases z)]; exact hG2
                have ok6 := ok2.grow g26
                have gr6 : Grow G1 H1 G6 H6 := g12.trans g26
                have hne : ∀ b, H1 b ≠ none → b ≠ D := fun b hb z => hb (z ▸ hD)
                refine ⟨acc, g26.h _ _ hacc, Nat.lt_of_le_of_lt hal (Nat.lt_of_lt_of_le hlt (Nat.le_trans hz line_le)), trivial, hlt, G6, acc ++ [v], done ++ [y], ok6.free hG6 hDB hDo (fun dd ws e z => by rw [z, g26.h _ _ hacc] at e; cases e), ⟨gr6.g, fun b o eb => ?_, fun b o eb => ?_, gr6.n⟩, upd_same, hG6, by rw [List.length_append]; exact Nat.succ_le_succ hal, ?_, ?_⟩
                · rw [upd_ne (hne b (by rw [eb]; exact fun z => by cases z))]; exact gr6.h b o eb
                · rw [upd_ne fun z => by rw [z, hG6] at eb; cases eb]; exact gr6.gh b o eb
                · rw [List.map_append]; exact (den.mono g26.g).append (.cons dv .nil)
                · rw [mb_assoc] at fin2
                  simpa only [mb_ok, List.append_assoc, List.singleton_append] using fin2
        · have hi' : i = zs.length := by omega
          subst hi'
          rw [List.drop_length] at fin2
          refine .inl ⟨(io _ H2 G2 ok2.h0 g12.g ok2.gh).2 (by rw [List.length_map]; exact Nat.le_refl _), ?_⟩
          have fin3 : FinO X J enb (.ok (done ++ [])) σ G H Q := fin2
          rw [List.append_nil] at fin3
          exact fin3 D acc G2 H2 (gr.trans g12) hDH hacc hG2 den
    · rw [if_neg hz] at fin; exact fin.elim
theorem o_lc {tg iter elt : Expr} {ifs : List Expr} {scope : Scope} {ow : List (Str × Nat)} {T : α → List Sl → List Sl} {g : TG} {m : M (List α)} {mt : α → M Bool} {f : α → M β} (C : CxD X J k) (hi : DI X J S tg iter enc m) (ok : BlkOk X.N X.env.scope scope ow)
    (hg : ∀ (s : Shared) (H : Hp) (C : Addr) (cl : List (Str × Addr)) (fp : List Addr), PG (X.blk s H scope (compEnvC scope cl C X.env) fp) tg g) (hgs : GSem X J enc T (ow.map (·.2)) g)
    (ht : ∀ (s : Shared) (H : Hp) (C : Addr) (cl : List (Str × Addr)) (fp : List Addr) x, PTs (X.blk s H scope (compEnvC scope cl C X.env) fp) ifs (tT X (jb J) (T x (wipeS S (ow.map (·.2)))) (mt x)))
    (he : ∀ (s : Shared) (H : Hp) (Ca : Addr) (cl : List (Str × Addr)) (fp : List Addr), CxD (X.blk s H scope (compEnvC scope cl Ca X.env) fp) (jb J) k → ∀ x, DE (X.blk s H scope (compEnvC scope cl Ca X.env) fp) (jb J) (T x (wipeS S (ow.map (·.2)))) elt enb (f x)) (hs : ∀ x, foldedSetIterable iter X.env x = pure x := by intro _; rfl) :
    DO X J S (.ListComp elt [⟨tg, iter, ifs, 0⟩] scope pos) enb (mb m fun xs => lcM mt f xs) := by
  have ht' : ∀ (s : Shared) (H : Hp) (C : Addr) (cl : List (Str × Addr)) (fp : List Addr), PTs (X.blk s H scope (compEnvC scope cl C X.env) fp) ifs (fun σ H Q => ∃ x, tT X (jb J) (T x (wipeS S (ow.map (·.2)))) (mt x) σ H Q) :=
    fun s H Ca cl fp => ⟨fun pins s' σ H' Q I ⟨x, q⟩ => (ht s H Ca cl fp x).run pins s' σ H' Q I q⟩
  have he' : ∀ (s : Shared) (H : Hp) (C : Addr) (cl : List (Str × Addr)) (fp : List Addr), PE (X.blk s H scope (compEnvC scope cl C X.env) fp) elt (fun σ H Q => ∃ x, tE X (jb J) (T x (wipeS S (ow.map (·.2)))) enb (f x) σ H Q) :=
    fun s H Ca cl fp => ⟨fun pins s' σ H' Q I ⟨x, q⟩ => (he s H Ca cl fp (C.blk s H scope _ fp) x).run pins s' σ H' Q I q⟩
  exact pe_imp (pe_lc C.calm C.nd hi ok hg ht' he' hs) fun σ H Q q => lc_imp hgs q
/-- x = [..] on one line, x a local -/
theorem ss_asgLc {tg iter elt : Expr} {ifs : List Expr} {scope : Scope} {ow : List (Str × Nat)} {T : α → List Sl → List Sl} {g : TG} {m : M (List α)} {mt : α → M Bool} {f : α → M β} {rest : List Stmt} {N : γ → List Sl} {L : δ → List Sl} {R : ρ → RV} {h : List β → M (Out γ δ ρ)} {i : Nat} {y : Str} {py spos : Pos} (C : CxD X J k) (hi : DI X J S tg iter enc m) (ok : BlkOk X.N X.env.scope scope ow)
    (hg : ∀ (s : Shared) (H : Hp) (C : Addr) (cl : List (Str × Addr)) (fp : List Addr), PG (X.blk s H scope (compEnvC scope cl C X.env) fp) tg g) (hgs : GSem X J enc T (ow.map (·.2)) g)
    (ht : ∀ (s : Shared) (H : Hp) (C : Addr) (cl : List (Str × Addr)) (fp : List Addr) x, PTs (X.blk s H scope (compEnvC scope cl C X.env) fp) ifs (tT X (jb J) (T x (wipeS S (ow.map (·.2)))) (mt x)))
    (he : ∀ (s : Shared) (H : Hp) (Ca : Addr) (cl : List (Str × Addr)) (fp : List Addr), CxD (X.blk s H scope (compEnvC scope cl Ca X.env) fp) (jb J) k → ∀ x, DE (X.blk s H scope (compEnvC scope cl Ca X.env) fp) (jb J) (T x (wipeS S (ow.map (·.2)))) elt enb (f x))
    (hr : ∀ xs, DSs X J (S.set i (.ow (xs.map enb))) rest N L R (h xs)) (hw : Wk S J.Sx) (hy : X.N[i]? = some y := by rfl) (hyl : X.env.scope.names.lookup y = some .local := by rfl) (hk : X.env.scope.kind = .function := by rfl) (hln : (py.line == pos.line) = true := by rfl)
    (ha : (scope.names.any fun (n, k) => n == y && (k == .local || k == .cell)) = false := by rfl) (hs : ∀ x, foldedSetIterable iter X.env x = pure x := by intro _; rfl) :
    DSs X J S (.Assign [.Name y py] (.ListComp elt [⟨tg, iter, ifs, 0⟩] scope pos) spos :: rest) N L R (mb (mb m fun xs => lcM mt f xs) h) := by
  have ht' : ∀ (s : Shared) (H : Hp) (C : Addr) (cl : List (Str × Addr)) (fp : List Addr), PTs (X.blk s H scope (compEnvC scope cl C X.env) fp) ifs (fun σ H Q => ∃ x, tT X (jb J) (T x (wipeS S (ow.map (·.2)))) (mt x) σ H Q) :=
    fun s H Ca cl fp => ⟨fun pins s' σ H' Q I ⟨x, q⟩ => (ht s H Ca cl fp x).run pins s' σ H' Q I q⟩
  have he' : ∀ (s : Shared) (H : Hp) (C : Addr) (cl : List (Str × Addr)) (fp : List Addr), PE (X.blk s H scope (compEnvC scope cl C X.env) fp) elt (fun σ H Q => ∃ x, tE X (jb J) (T x (wipeS S (ow.map (·.2)))) enb (f x) σ H Q) :=
    fun s H Ca cl fp => ⟨fun pins s' σ H' Q I ⟨x, q⟩ => (he s H Ca cl fp (C.blk s H scope _ fp) x).run pins s' σ H' Q I q⟩
  exact pss_imp (pss_cons (ps_setLc C.calm C.nd hy hyl (sw_true hk hyl hln ha) hi ok hg ht' he' hs) (pss_ex hr)) fun Dn σ H ⟨G, own, okk, fin⟩ => by
    unfold tSeq tAsg
    exact lc_imp (J := J) (enb := enb) hgs (O_bind (FinS.wish hw) okk ⟨fin, okk⟩ fun x p vs G1 H1 g ok1 hp ho hq hg d r => ⟨x, G1, _, ok1.setO hq (Same.free okk.h0 hp) hg ho d, r.1⟩)
theorem ts_nil : PTs X [] (tT X J S (.ok true)) := ⟨fun pins s σ H Q I ⟨G, own, ok, fin⟩ => pts_nil.run pins s σ H Q I (fin G H (Grow.refl ok.gh))⟩
/-- without a test -/
theorem o_lc0 {tg iter elt : Expr} {scope : Scope} {ow : List (Str × Nat)} {T : α → List Sl → List Sl} {g : TG} {m : M (List α)} {f : α → M β} (C : CxD X J k) (hi : DI X J S tg iter enc m) (ok : BlkOk X.N X.env.scope scope ow)
    (hg : ∀ (s : Shared) (H : Hp) (C : Addr) (cl : List (Str × Addr)) (fp : List Addr), PG (X.blk s H scope (compEnvC scope cl C X.env) fp) tg g) (hgs : GSem X J enc T (ow.map (·.2)) g)
    (he : ∀ (s : Shared) (H : Hp) (Ca : Addr) (cl : List (Str × Addr)) (fp : List Addr), CxD (X.blk s H scope (compEnvC scope cl Ca X.env) fp) (jb J) k → ∀ x, DE (X.blk s H scope (compEnvC scope cl Ca X.env) fp) (jb J) (T x (wipeS S (ow.map (·.2)))) elt enb (f x)) (hs : ∀ x, foldedSetIterable iter X.env x = pure x := by intro _; rfl) :
    DO X J S (.ListComp elt [⟨tg, iter, [], 0⟩] scope pos) enb (mb m fun xs => mapC f xs) := by
  have e : (fun xs => mapC f xs) = fun xs => lcM (fun _ => .ok true) f xs := by
    funext xs
    unfold mapC lcM
    rw [filL_map]
  rw [e]
  exact o_lc (mt := fun _ => .ok true) C hi ok hg hgs (fun s H Ca cl fp x => ⟨fun pins s' σ H' Q I q => ts_nil.run pins s' σ H' Q I q⟩) he hs
/-- with one test -/
theorem o_lc1 {tg iter elt cond : Expr} {scope : Scope} {ow : List (Str × Nat)} {T : α → List Sl → List Sl} {g : TG} {m : M (List α)} {mt : α → M Bool} {f : α → M β} (C : CxD X J k) (hi : DI X J S tg iter enc m) (ok : BlkOk X.N X.env.scope scope ow)
    (hg : ∀ (s : Shared) (H : Hp) (C : Addr) (cl : List (Str × Addr)) (fp : List Addr), PG (X.blk s H scope (compEnvC scope cl C X.env) fp) tg g) (hgs : GSem X J enc T (ow.map (·.2)) g)
    (ht : ∀ (s : Shared) (H : Hp) (Ca : Addr) (cl : List (Str × Addr)) (fp : List Addr), CxD (X.blk s H scope (compEnvC scope cl Ca X.env) fp) (jb J) k → ∀ x, DT (X.blk s H scope (compEnvC scope cl Ca X.env) fp) (jb J) (T x (wipeS S (ow.map (·.2)))) cond (mt x))
    (he : ∀ (s : Shared) (H : Hp) (Ca : Addr) (cl : List (Str × Addr)) (fp : List Addr), CxD (X.blk s H scope (compEnvC scope cl Ca X.env) fp) (jb J) k → ∀ x, DE (X.blk s H scope (compEnvC scope cl Ca X.env) fp) (jb J) (T x (wipeS S (ow.map (·.2)))) elt enb (f x)) (hs : ∀ x, foldedSetIterable iter X.env x = pure x := by intro _; rfl) :
    DO X J S (.ListComp elt [⟨tg, iter, [cond], 0⟩] scope pos) enb (mb m fun xs => lcM mt f xs) :=
  o_lc C hi ok hg hgs (fun s H Ca cl fp x => pts_one (ht s H Ca cl fp (C.blk s H scope _ fp) x)) he hs
/-- the same without a test, with one -/
theorem ss_asgLc0 {tg iter elt : Expr} {scope : Scope} {ow : List (Str × Nat)} {T : α → List Sl → List Sl} {g : TG} {m : M (List α)} {f : α → M β} {rest : List Stmt} {N : γ → List Sl} {L : δ → List Sl} {R : ρ → RV} {h : List β → M (Out γ δ ρ)} {i : Nat} {y : Str} {py spos : Pos} (C : CxD X J k) (hi : DI X J S tg iter enc m) (ok : BlkOk X.N X.env.scope scope ow)
    (hg : ∀ (s : Shared) (H : Hp) (C : Addr) (cl : List (Str × Addr)) (fp : List Addr), PG (X.blk s H scope (compEnvC scope cl C X.env) fp) tg g) (hgs : GSem X J enc T (ow.map (·.2)) g)
    (he : ∀ (s : Shared) (H : Hp) (Ca : Addr) (cl : List (Str × Addr)) (fp : List Addr), CxD (X.blk s H scope (compEnvC scope cl Ca X.env) fp) (jb J) k → ∀ x, DE (X.blk s H scope (compEnvC scope cl Ca X.env) fp) (jb J) (T x (wipeS S (ow.map (·.2)))) elt enb (f x))
    (hr : ∀ xs, DSs X J (S.set i (.ow (xs.map enb))) rest N L R (h xs)) (hw : Wk S J.Sx) (hy : X.N[i]? = some y := by rfl) (hyl : X.env.scope.names.lookup y = some .local := by rfl) (hk : X.env.scope.kind = .function := by rfl) (hln : (py.line == pos.line) = true := by rfl)
    (ha : (scope.names.any fun (n, k) => n == y && (k == .local || k == .cell)) = false := by rfl) (hs : ∀ x, foldedSetIterable iter X.env x = pure x := by intro _; rfl) :
    DSs X J S (.Assign [.Name y py] (.ListComp elt [⟨tg, iter, [], 0⟩] scope pos) spos :: rest) N L R (mb (mb m fun xs => mapC f xs) h) := by
  have e : (fun xs => mapC f xs) = fun xs => lcM (fun _ => .ok true) f xs := by
    funext xs
    unfold mapC lcM
    rw [filL_map]
  rw [e]
  exact ss_asgLc (mt := fun _ => .ok true) C hi ok hg hgs (fun s H Ca cl fp x => ⟨fun pins s' σ H' Q I q => ts_nil.run pins s' σ H' Q I q⟩) he hr hw hy hyl hk hln ha hs
theorem ss_asgLc1 {tg iter elt cond : Expr} {scope : Scope} {ow : List (Str × Nat)} {T : α → List Sl → List Sl} {g : TG} {m : M (List α)} {mt : α → M Bool} {f : α → M β} {rest : List Stmt} {N : γ → List Sl} {L : δ → List Sl} {R : ρ → RV} {h : List β → M (Out γ δ ρ)} {i : Nat} {y : Str} {py spos : Pos} (C : CxD X J k) (hi : DI X J S tg iter enc m) (ok : BlkOk X.N X.env.scope scope ow)
    (hg : ∀ (s : Shared) (H : Hp) (C : Addr) (cl : List (Str × Addr)) (fp : List Addr), PG (X.blk s H scope (compEnvC scope cl C X.env) fp) tg g) (hgs : GSem X J enc T (ow.map (·.2)) g)
    (ht : ∀ (s : Shared) (H : Hp) (Ca : Addr) (cl : List (Str × Addr)) (fp : List Addr), CxD (X.blk s H scope (compEnvC scope cl Ca X.env) fp) (jb J) k → ∀ x, DT (X.blk s H scope (compEnvC scope cl Ca X.env) fp) (jb J) (T x (wipeS S (ow.map (·.2)))) cond (mt x))
    (he : ∀ (s : Shared) (H : Hp) (Ca : Addr) (cl : List (Str × Addr)) (fp : List Addr), CxD (X.blk s H scope (compEnvC scope cl Ca X.env) fp) (jb J) k → ∀ x, DE (X.blk s H scope (compEnvC scope cl Ca X.env) fp) (jb J) (T x (wipeS S (ow.map (·.2)))) elt enb (f x))
    (hr : ∀ xs, DSs X J (S.set i (.ow (xs.map enb))) rest N L R (h xs)) (hw : Wk S J.Sx) (hy : X.N[i]? = some y := by rfl) (hyl : X.env.scope.names.lookup y = some .local := by rfl) (hk : X.env.scope.kind = .function := by rfl) (hln : (py.line == pos.line) = true := by rfl)
    (ha : (scope.names.any fun (n, k) => n == y && (k == .local || k == .cell)) = false := by rfl) (hs : ∀ x, foldedSetIterable iter X.env x = pure x := by intro _; rfl) :
    DSs X J S (.Assign [.Name y py] (.ListComp elt [⟨tg, iter, [cond], 0⟩] scope pos) spos :: rest) N L R (mb (mb m fun xs => lcM mt f xs) h) :=
  ss_asgLc C hi ok hg hgs (fun s H Ca cl fp x => pts_one (ht s H Ca cl fp (C.blk s H scope _ fp) x)) he hr hw hy hyl hk hln ha hs
end
end DL

namespace DL
open PySem PySem.Spec PyProof.Rows L2
variable {X : Cx} {J : Jx}
section
variable {α β γ δ ρ : Type} {S : List Sl} {enc : α → D} {enb : β → D} {a b c e : Expr} {es : List Expr} {pos p : Pos} {k j : Nat}

/-! ### built-in calls -/
theorem e_lenL {m : M (List α)} (hm : X.mg "len" = none) (h : PA X [a] (tCons (tEb X J S (eL enc) m) tNil)) (hg : Gl X "len" := by rfl)
    (he : starEach (a :: []) X.env = (false, eval a X.env) :: starEach [] X.env := by rfl) (hpl : (backTo pos (starEach [] X.env)).any (·.1) = false := by rfl) : DE X J S (.Call (.Name "len" p) [a] [] pos) eI (mb m fun xs => .ok (xs.length : Int)) :=
  pe_imp (pe_callB call_len_seq hg hm PySem.boot_len h (by decide) (by decide) he hpl) fun σ H Q ⟨G, own, ok, fin⟩ => B_bind Fin.wish ok fin fun xs v G1 H1 g ok1 d r => by
    obtain ⟨q, vs, rfl, h1, h2⟩ := DenB.list ok1.gh d
    refine ⟨q, vs, rfl, .inl (SqL.of h1), ?_⟩
    have e := h2.length
    rw [List.length_map] at e
    rw [e]
    exact r _ G1 H1 (Grow.refl ok1.gh) (.int _)
theorem e_lenT {m : M (List α)} (hm : X.mg "len" = none) (h : PA X [a] (tCons (tE X J S (eT enc) m) tNil)) (hg : Gl X "len" := by rfl)
    (he : starEach (a :: []) X.env = (false, eval a X.env) :: starEach [] X.env := by rfl) (hpl : (backTo pos (starEach [] X.env)).any (·.1) = false := by rfl) : DE X J S (.Call (.Name "len" p) [a] [] pos) eI (mb m fun xs => .ok (xs.length : Int)) :=
  pe_imp (pe_callB call_len_seq hg hm PySem.boot_len h (by decide) (by decide) he hpl) fun σ H Q ⟨G, own, ok, fin⟩ => E_bind Fin.wish ok fin fun xs v G1 H1 g ok1 d r => by
    obtain ⟨q, vs, rfl, h1, h2⟩ := Den.tuple (X := X) ok1.gh d
    refine ⟨q, vs, rfl, .inr h1, ?_⟩
    have e := h2.length
    rw [List.length_map] at e
    rw [e]
    exact r _ G1 H1 (Grow.refl ok1.gh) (.int _)
/-- the law's script -/
abbrev eScr : List Int → D := fun ns => .scr (ns.map D.int)
theorem e_lenS {m : M (List Int)} (hm : X.mg "len" = none) (h : PA X [a] (tCons (tE X J S eScr m) tNil)) (hg : Gl X "len" := by rfl)
    (he : starEach (a :: []) X.env = (false, eval a X.env) :: starEach [] X.env := by rfl) (hpl : (backTo pos (starEach [] X.env)).any (·.1) = false := by rfl) : DE X J S (.Call (.Name "len" p) [a] [] pos) eI (mb m fun xs => .ok (xs.length : Int)) :=
  pe_imp (pe_callB call_len_seq hg hm PySem.boot_len h (by decide) (by decide) he hpl) fun σ H Q ⟨G, own, ok, fin⟩ => E_bind Fin.wish ok fin fun xs v G1 H1 g ok1 d r => by
    cases d with
    | scr h1 h2 =>
      refine ⟨_, _, rfl, .inl (ok1.gh.seq h1), ?_⟩
      have e := h2.length
      rw [List.length_map] at e
      rw [e]
      exact r _ G1 H1 (Grow.refl ok1.gh) (.int _)
theorem e_ixS {m : M (List Int)} {mi : M Int} (ha : DE X J S a eScr m) (hb : DE X J S b eI mi) (hs : PlainIx b := by intro _ _; rfl) : DE X J S (.Subscript a b pos) eI (mb m fun xs => mb mi fun i => ixM xs i) :=
  pe_imp (pe_ix ix_list ha hb hs) fun σ H Q ⟨G, own, ok, fin⟩ => E_bind Fin.wish ok fin fun xs v G1 H1 g ok1 d r => E_bind Fin.wish ok1 r fun i u G2 H2 g2 ok2 d2 r2 => by
    cases d2
    cases d with
    | scr h1 h2 =>
      unfold ixM at r2
      cases hx : L2.atI xs i with
      | none => rw [hx] at r2; exact r2.elim
      | some x =>
        rw [hx] at r2
        obtain ⟨w, e1, e2⟩ := (h2.mono g2.g).atI hx
        exact ⟨_, _, i, w, rfl, rfl, (g2.gh.seq (g2.g.seq h1)), e1, r2 w G2 H2 (Grow.refl ok2.gh) e2⟩
theorem e_intI {m : M Int} (hm : X.mg "int" = none) (h : PA X [a] (tCons (tE X J S eI m) tNil)) (hg : Gl X "int" := by rfl)
    (he : starEach (a :: []) X.env = (false, eval a X.env) :: starEach [] X.env := by rfl) (hpl : (backTo pos (starEach [] X.env)).any (·.1) = false := by rfl) : DE X J S (.Call (.Name "int" p) [a] [] pos) eI m :=
  pe_imp (pe_callTy call_int1 hg hm boot_int h (by decide) (by decide) he hpl) fun σ H Q ⟨G, own, ok, fin⟩ => E_bind (f := .ok) (Fin.wish (enc := eI) (Q := Q)) ok (by cases m <;> exact fin) fun i v G1 H1 g ok1 d r => by
    cases d
    exact .inl ⟨i, rfl, r _ G1 H1 (Grow.refl ok1.gh) (.int _)⟩
/-- list(xs), of a list | a tuple -/
theorem o_list {m : M (List α)} (hm : X.mg "list" = none) (h : PA X [a] (tCons (tEb X J S (eL enc) m) tNil)) (hg : Gl X "list" := by rfl)
    (he : starEach (a :: []) X.env = (false, eval a X.env) :: starEach [] X.env := by rfl) (hpl : (backTo pos (starEach [] X.env)).any (·.1) = false := by rfl) : DO X J S (.Call (.Name "list" p) [a] [] pos) enc m :=
  pe_imp (pe_callTy call_list_of hg hm boot_list h (by decide) (by decide) he hpl) fun σ H Q ⟨G, own, ok, fin⟩ => B_bind (f := .ok) (FinO.wish (enc := enc) (Q := Q)) ok (by cases m <;> exact fin) fun xs v G1 H1 g ok1 d r => by
    obtain ⟨q, vs, rfl, h1, h2⟩ := DenB.list ok1.gh d
    exact ⟨q, vs, rfl, .inl (SqL.of h1), fun l hl => r l vs G1 _ (Grow.allocO ok1.gh hl) hl upd_same (Same.free ok1.gh hl) h2⟩
theorem o_listT {m : M (List α)} (hm : X.mg "list" = none) (h : PA X [a] (tCons (tE X J S (eT enc) m) tNil)) (hg : Gl X "list" := by rfl)
    (he : starEach (a :: []) X.env = (false, eval a X.env) :: starEach [] X.env := by rfl) (hpl : (backTo pos (starEach [] X.env)).any (·.1) = false := by rfl) : DO X J S (.Call (.Name "list" p) [a] [] pos) enc m :=
  pe_imp (pe_callTy call_list_of hg hm boot_list h (by decide) (by decide) he hpl) fun σ H Q ⟨G, own, ok, fin⟩ => E_bind (f := .ok) (FinO.wish (enc := enc) (Q := Q)) ok (by cases m <;> exact fin) fun xs v G1 H1 g ok1 d r => by
    obtain ⟨q, vs, rfl, h1, h2⟩ := Den.tuple (X := X) ok1.gh d
    exact ⟨q, vs, rfl, .inr h1, fun l hl => r l vs G1 _ (Grow.allocO ok1.gh hl) hl upd_same (Same.free ok1.gh hl) h2⟩
/-- tuple(xs), of a list | a tuple -/
theorem e_tuple {m : M (List α)} (hm : X.mg "tuple" = none) (h : PA X [a] (tCons (tEb X J S (eL enc) m) tNil)) (hg : Gl X "tuple" := by rfl)
    (he : starEach (a :: []) X.env = (false, eval a X.env) :: starEach [] X.env := by rfl) (hpl : (backTo pos (starEach [] X.env)).any (·.1) = false := by rfl) : DE X J S (.Call (.Name "tuple" p) [a] [] pos) (eT enc) m :=
  pe_imp (pe_callTy call_tuple_of hg hm boot_tuple h (by decide) (by decide) he hpl) fun σ H Q ⟨G, own, ok, fin⟩ => B_bind (f := .ok) (Fin.wish (enc := eT enc) (Q := Q)) ok (by cases m <;> exact fin) fun xs v G1 H1 g ok1 d r => by
    obtain ⟨q, vs, rfl, h1, h2⟩ := DenB.list ok1.gh d
    exact ⟨q, vs, rfl, .inl ⟨SqL.of h1, fun l hl => r _ _ _ (Grow.alloc ok1.gh hl) (.tup (.of upd_same) (h2.mono (same_upd (Same.free ok1.gh hl))))⟩⟩
theorem e_tupleT {m : M (List α)} (hm : X.mg "tuple" = none) (h : PA X [a] (tCons (tE X J S (eT enc) m) tNil)) (hg : Gl X "tuple" := by rfl)
    (he : starEach (a :: []) X.env = (false, eval a X.env) :: starEach [] X.env := by rfl) (hpl : (backTo pos (starEach [] X.env)).any (·.1) = false := by rfl) : DE X J S (.Call (.Name "tuple" p) [a] [] pos) (eT enc) m :=
  pe_imp (pe_callTy call_tuple_of hg hm boot_tuple h (by decide) (by decide) he hpl) fun σ H Q ⟨G, own, ok, fin⟩ => E_bind (f := .ok) (Fin.wish (enc := eT enc) (Q := Q)) ok (by cases m <;> exact fin) fun xs v G1 H1 g ok1 d r => by
    have d' := d
    obtain ⟨q, vs, rfl, h1, h2⟩ := Den.tuple (X := X) ok1.gh d
    exact ⟨q, vs, rfl, .inr ⟨h1, r _ G1 H1 (Grow.refl ok1.gh) d'⟩⟩
theorem e_sum {m : M (List Int)} (hc : X.calm = true) (hm : X.mg "sum" = none) (h : PA X [a] (tCons (tEb X J S (eL eI) m) tNil)) (hg : Gl X "sum" := by rfl)
    (he : starEach (a :: []) X.env = (false, eval a X.env) :: starEach [] X.env := by rfl) (hpl : (backTo pos (starEach [] X.env)).any (·.1) = false := by rfl) : DE X J S (.Call (.Name "sum" p) [a] [] pos) eI (mb m fun xs => .ok xs.sum) :=
  pe_imp (pe_callB (cr_sum hc) hg hm (by decide +kernel) h (by decide) (by decide) he hpl) fun σ H Q ⟨G, own, ok, fin⟩ => B_bind Fin.wish ok fin fun xs v G1 H1 g ok1 d r => by
    obtain ⟨q, vs, rfl, h1, h2⟩ := DenB.list ok1.gh d
    rw [DenL.ints h2] at h1
    exact ⟨q, xs, rfl, SqL.of h1, r _ G1 H1 (Grow.refl ok1.gh) (.int _)⟩
def lstMax (d : Int) : List Int → Int
  | [] => d
  | x :: xs => xs.foldl max x
/-- the greatest, the least of ints -/
def maxI : List Int → M Int
  | [] => .no
  | x :: xs => .ok (xs.foldl max x)
def minI : List Int → M Int
  | [] => .no
  | x :: xs => .ok (xs.foldl min x)
theorem foldl_max : ∀ (xs : List Int) (x : Int), xs.foldl max x ∈ x :: xs ∧ ∀ y ∈ x :: xs, y ≤ xs.foldl max x
  | [], x => ⟨List.mem_cons_self, fun y h => by cases h with | head => exact Int.le_refl _ | tail _ h => cases h⟩
  | z :: xs, x => by
    obtain ⟨h1, h2⟩ := foldl_max xs (max x z)
    rw [List.foldl_cons]
    refine ⟨?_, fun y hy => ?_⟩
    · rcases List.mem_cons.mp h1 with h | h
      · rw [h]
        by_cases q : x ≤ z
        · rw [Int.max_eq_right q]; exact List.mem_cons_of_mem _ List.mem_cons_self
        · rw [Int.max_eq_left (by omega)]; exact List.mem_cons_self
      · exact List.mem_cons_of_mem _ (List.mem_cons_of_mem _ h)
    · have hm := h2 (max x z) List.mem_cons_self
      rcases List.mem_cons.mp hy with rfl | hy
      · omega
      · rcases List.mem_cons.mp hy with rfl | hy
        · omega
        · exact h2 y (List.mem_cons_of_mem _ hy)
theorem foldl_min : ∀ (xs : List Int) (x : Int), xs.foldl min x ∈ x :: xs ∧ ∀ y ∈ x :: xs, xs.foldl min x ≤ y
  | [], x => ⟨List.mem_cons_self, fun y h => by cases h with | head => exact Int.le_refl _ | tail _ h => cases h⟩
  | z :: xs, x => by
    obtain ⟨h1, h2⟩ := foldl_min xs (min x z)
    rw [List.foldl_cons]
    refine ⟨?_, fun y hy => ?_⟩
    · rcases List.mem_cons.mp h1 with h | h
      · rw [h]
        by_cases q : x ≤ z
        · rw [Int.min_eq_left q]; exact List.mem_cons_self
        · rw [Int.min_eq_right (by omega)]; exact List.mem_cons_of_mem _ List.mem_cons_self
      · exact List.mem_cons_of_mem _ (List.mem_cons_of_mem _ h)
    · have hm := h2 (min x z) List.mem_cons_self
      rcases List.mem_cons.mp hy with rfl | hy
      · omega
      · rcases List.mem_cons.mp hy with rfl | hy
        · omega
        · exact h2 y (List.mem_cons_of_mem _ hy)
theorem e_maxL {m : M (List Int)} (hc : X.calm = true) (hm : X.mg "max" = none) (h : PA X [a] (tCons (tEb X J S (eL eI) m) tNil)) (hg : Gl X "max" := by rfl)
    (he : starEach (a :: []) X.env = (false, eval a X.env) :: starEach [] X.env := by rfl) (hpl : (backTo pos (starEach [] X.env)).any (·.1) = false := by rfl) : DE X J S (.Call (.Name "max" p) [a] [] pos) eI (mb m fun xs => maxI xs) :=
  pe_imp (pe_callB (cr_max hc) hg hm (by decide +kernel) h (by decide) (by decide) he hpl) fun σ H Q ⟨G, own, ok, fin⟩ => B_bind Fin.wish ok fin fun xs v G1 H1 g ok1 d r => by
    obtain ⟨q, vs, rfl, h1, h2⟩ := DenB.list ok1.gh d
    rw [DenL.ints h2] at h1
    cases xs with
    | nil => exact r.elim
    | cons x xs =>
      refine ⟨q, _, rfl, SqL.of h1, Nat.succ_pos _, fun mx h3 h4 => ?_⟩
      obtain ⟨f1, f2⟩ := foldl_max xs x
      have e : mx = xs.foldl max x := Int.le_antisymm (f2 _ h3) (h4 _ f1)
      rw [e]
      exact r _ G1 H1 (Grow.refl ok1.gh) (.int _)
theorem e_minL {m : M (List Int)} (hc : X.calm = true) (hm : X.mg "min" = none) (h : PA X [a] (tCons (tEb X J S (eL eI) m) tNil)) (hg : Gl X "min" := by rfl)
    (he : starEach (a :: []) X.env = (false, eval a X.env) :: starEach [] X.env := by rfl) (hpl : (backTo pos (starEach [] X.env)).any (·.1) = false := by rfl) : DE X J S (.Call (.Name "min" p) [a] [] pos) eI (mb m fun xs => minI xs) :=
  pe_imp (pe_callB (cr_min hc) hg hm (by decide +kernel) h (by decide) (by decide) he hpl) fun σ H Q ⟨G, own, ok, fin⟩ => B_bind Fin.wish ok fin fun xs v G1 H1 g ok1 d r => by
    obtain ⟨q, vs, rfl, h1, h2⟩ := DenB.list ok1.gh d
    rw [DenL.ints h2] at h1
    cases xs with
    | nil => exact r.elim
    | cons x xs =>
      refine ⟨q, _, rfl, SqL.of h1, Nat.succ_pos _, fun mx h3 h4 => ?_⟩
      obtain ⟨f1, f2⟩ := foldl_min xs x
      have e : mx = xs.foldl min x := Int.le_antisymm (h4 _ f1) (f2 _ h3)
      rw [e]
      exact r _ G1 H1 (Grow.refl ok1.gh) (.int _)
theorem e_max2 {m n : M Int} (hc : X.calm = true) (hm : X.mg "max" = none) (h : PA X [a, b] (tCons (tE X J S eI m) (tCons (tE X J S eI n) tNil))) (hg : Gl X "max" := by rfl)
    (he : starEach (a :: [b]) X.env = (false, eval a X.env) :: starEach [b] X.env := by rfl) (hpl : (backTo pos (starEach [b] X.env)).any (·.1) = false := by rfl) : DE X J S (.Call (.Name "max" p) [a, b] [] pos) eI (mb m fun x => mb n fun y => .ok (max x y)) :=
  pe_imp (pe_callB (call_max2 hc) hg hm (by decide +kernel) h (by decide) (by decide) he hpl) fun σ H Q ⟨G, own, ok, fin⟩ => E_bind Fin.wish ok fin fun x v G1 H1 g ok1 d r => E_bind Fin.wish ok1 r fun y u G2 H2 g2 ok2 d2 r2 => by
    cases d; cases d2
    refine ⟨x, y, rfl, ?_⟩
    rw [show (if y > x then y else x) = max x y by
      by_cases q : y > x
      · rw [if_pos q, Int.max_eq_right (by omega)]
      · rw [if_neg q, Int.max_eq_left (by omega)]]
    exact r2 _ G2 H2 (Grow.refl ok2.gh) (.int _)
theorem e_min2 {m n : M Int} (hc : X.calm = true) (hm : X.mg "min" = none) (h : PA X [a, b] (tCons (tE X J S eI m) (tCons (tE X J S eI n) tNil))) (hg : Gl X "min" := by rfl)
    (he : starEach (a :: [b]) X.env = (false, eval a X.env) :: starEach [b] X.env := by rfl) (hpl : (backTo pos (starEach [b] X.env)).any (·.1) = false := by rfl) : DE X J S (.Call (.Name "min" p) [a, b] [] pos) eI (mb m fun x => mb n fun y => .ok (min x y)) :=
  pe_imp (pe_callB (call_min2 hc) hg hm (by decide +kernel) h (by decide) (by decide) he hpl) fun σ H Q ⟨G, own, ok, fin⟩ => E_bind Fin.wish ok fin fun x v G1 H1 g ok1 d r => E_bind Fin.wish ok1 r fun y u G2 H2 g2 ok2 d2 r2 => by
    cases d; cases d2
    refine ⟨x, y, rfl, ?_⟩
    rw [show (if y < x then y else x) = min x y by
      by_cases q : y < x
      · rw [if_pos q, Int.min_eq_right (by omega)]
      · rw [if_neg q, Int.min_eq_left (by omega)]]
    exact r2 _ G2 H2 (Grow.refl ok2.gh) (.int _)
/-- a list repeated, joined -/
def repM (xs : List α) (k : Int) : M (List α) := if xs.length * k.toNat ≤ line ∧ k < 2 ^ 62 ∧ -(2 ^ 62) < k then .ok (List.replicate k.toNat xs).flatten else .no
def catM (xs ys : List α) : M (List α) := if xs.length + ys.length ≤ line then .ok (xs ++ ys) else .no
theorem DenL.rep {K : PySem.W.Frag} {ca : Str → Addr} {H : Hp} {vs : List V} {ds : List D} (h : DenL K ca H vs ds) : ∀ n, DenL K ca H (List.replicate n vs).flatten (List.replicate n ds).flatten
  | 0 => .nil
  | n + 1 => by
    rw [List.replicate_succ, List.replicate_succ, List.flatten_cons, List.flatten_cons]
    exact h.append (DenL.rep h n)
theorem map_rep (xs : List α) (n : Nat) : (List.replicate n (xs.map enc)).flatten = (List.replicate n xs).flatten.map enc := by
  rw [List.map_flatten, List.map_replicate]
theorem o_rep {m : M (List α)} {n : M Int} (ha : DB X J S a (eL enc) m) (hb : DE X J S b eI n) : DO X J S (.BinOp a .Mult b pos) enc (mb m fun xs => mb n fun k => repM xs k) :=
  pe_imp (pe_op op_rep ha hb) fun σ H Q ⟨G, own, ok, fin⟩ => B_bind FinO.wish ok fin fun xs v G1 H1 g ok1 d r => E_bind FinO.wish ok1 r fun i u G2 H2 g2 ok2 d2 r2 => by
    cases d2
    obtain ⟨q, vs, rfl, h1, h2⟩ := DenB.list ok2.gh (d.grow g2)
    have el := h2.length
    rw [List.length_map] at el
    unfold repM at r2
    split at r2
    · rename_i hz
      refine ⟨q, i, vs, rfl, rfl, h1, by omega, by omega, by rw [el]; exact Nat.le_trans hz.1 line_le, fun l hl => r2 l _ G2 _ (Grow.allocO ok2.gh hl) hl upd_same (Same.free ok2.gh hl) ?_⟩
      rw [← map_rep]
      exact h2.rep _
    · exact r2.elim
theorem o_cat {m n : M (List α)} (ha : DB X J S a (eL enc) m) (hb : DB X J S b (eL enc) n) : DO X J S (.BinOp a .Add b pos) enc (mb m fun xs => mb n fun ys => catM xs ys) :=
  pe_imp (pe_op op_cat ha hb) fun σ H Q ⟨G, own, ok, fin⟩ => B_bind FinO.wish ok fin fun xs v G1 H1 g ok1 d r => B_bind FinO.wish ok1 r fun ys u G2 H2 g2 ok2 d2 r2 => by
    obtain ⟨q, vs, rfl, h1, h2⟩ := DenB.list ok2.gh (d.grow g2)
    obtain ⟨q', ws, rfl, h1', h2'⟩ := DenB.list ok2.gh d2
    have el := h2.length
    have el' := h2'.length
    rw [List.length_map] at el el'
    unfold catM at r2
    split at r2
    · rename_i hz
      refine ⟨q, q', vs, ws, rfl, rfl, h1, h1', by rw [el, el']; exact Nat.le_trans hz line_le, fun l hl => r2 l _ G2 _ (Grow.allocO ok2.gh hl) hl upd_same (Same.free ok2.gh hl) ?_⟩
      rw [List.map_append]
      exact h2.append h2'
    · exact r2.elim
theorem e_catT {m n : M (List α)} (ha : DE X J S a (eT enc) m) (hb : DE X J S b (eT enc) n) : DE X J S (.BinOp a .Add b pos) (eT enc) (mb m fun xs => mb n fun ys => catM xs ys) :=
  pe_imp (pe_op op_catA ha hb) fun σ H Q ⟨G, own, ok, fin⟩ => E_bind Fin.wish ok fin fun xs v G1 H1 g ok1 d r => E_bind Fin.wish ok1 r fun ys u G2 H2 g2 ok2 d2 r2 => by
    have d1' := d.mono g2.g
    have d2' := d2
    obtain ⟨q, vs, rfl, h1, h2⟩ := Den.tuple (X := X) ok2.gh d1'
    obtain ⟨q', ws, rfl, h1', h2'⟩ := Den.tuple (X := X) ok2.gh d2
    have el := h2.length
    have el' := h2'.length
    rw [List.length_map] at el el'
    unfold catM at r2
    split at r2
    · rename_i hz
      refine ⟨q, q', vs, ws, rfl, rfl, h1, h1', by rw [el, el']; exact Nat.le_trans hz line_le, fun e0 => ?_, fun e0 e1 => ?_, fun e0 e1 l hl => ?_⟩
      · have : xs = [] := by rw [e0] at el; exact List.length_eq_zero_iff.mp el.symm
        subst this
        exact r2 _ G2 H2 (Grow.refl ok2.gh) d2'
      · have : ys = [] := by rw [e1] at el'; exact List.length_eq_zero_iff.mp el'.symm
        subst this
        rw [List.append_nil] at r2
        exact r2 _ G2 H2 (Grow.refl ok2.gh) d1'
      · refine r2 _ _ _ (Grow.alloc ok2.gh hl) (.tup (.of upd_same) ?_)
        rw [List.map_append]
        exact (h2.append h2').mono (same_upd (Same.free ok2.gh hl))
    · exact r2.elim
/-- list(range(..)) -/
theorem DenL.rgV {K : PySem.W.Frag} {ca : Str → Addr} {H : Hp} (i j : Int) : DenL K ca H (L2.rgV i j) ((rng i j).map eI) := by
  have e : L2.rgV i j = (rng i j).map V.int := by
    unfold L2.rgV rng
    rw [List.map_map]
    rfl
  rw [e]
  exact DL.DenL.of_ints _
def rngL (lo hi : Int) : M (List Int) := if okI lo && okI hi && decide ((hi - lo).toNat ≤ line) then .ok (rng lo hi) else .no
theorem o_rng1 {m : M Int} {p2 pos2 : Pos} (hc : X.calm = true) (hm : X.mg "list" = none) (hm2 : X.mg "range" = none) (ha : DE X J S a eI m) (hg : Gl X "list" := by rfl) (hg2 : Gl X "range" := by rfl) (na : starEach [a] X.env = (false, eval a X.env) :: starEach [] X.env := by rfl)
    (nb : starEach [Expr.Call (.Name "range" p2) [a] [] pos2] X.env = (false, eval (.Call (.Name "range" p2) [a] [] pos2) X.env) :: starEach [] X.env := by rfl) :
    DO X J S (.Call (.Name "list" p) [.Call (.Name "range" p2) [a] [] pos2] [] pos) eI (mb m fun n => rngL 0 n) :=
  pe_imp (pe_listRg hc hg hm (prg_1 hg2 hm2 ha na) nb) fun σ H Q ⟨G, own, ok, fin⟩ => E_bind FinO.wish ok fin fun i v G1 H1 g ok1 d r => by
    cases d
    unfold rngL at r
    split at r
    · rename_i h
      simp only [okI, Bool.and_eq_true, decide_eq_true_eq] at h
      refine ⟨i, rfl, ⟨h.1.1.1, h.1.1.2, h.1.2.1, h.1.2.2, Nat.le_trans h.2 (by decide)⟩, fun q hq => r q _ G1 _ (Grow.allocO ok1.gh hq) hq upd_same (Same.free ok1.gh hq) (DenL.rgV 0 i)⟩
    · exact r.elim
theorem o_rng2 {m n : M Int} {p2 pos2 : Pos} (hc : X.calm = true) (hm : X.mg "list" = none) (hm2 : X.mg "range" = none) (ha : DE X J S a eI m) (hb : DE X J S b eI n) (hg : Gl X "list" := by rfl) (hg2 : Gl X "range" := by rfl) (na : starEach [a, b] X.env = (false, eval a X.env) :: starEach [b] X.env := by rfl) (na2 : starEach [b] X.env = (false, eval b X.env) :: starEach [] X.env := by rfl)
    (hp2 : (backTo pos2 (starEach [b] X.env)).any (·.1) = false := by rfl) (nb : starEach [Expr.Call (.Name "range" p2) [a, b] [] pos2] X.env = (false, eval (.Call (.Name "range" p2) [a, b] [] pos2) X.env) :: starEach [] X.env := by rfl) :
    DO X J S (.Call (.Name "list" p) [.Call (.Name "range" p2) [a, b] [] pos2] [] pos) eI (mb m fun i => mb n fun j => rngL i j) :=
  pe_imp (pe_listRg hc hg hm (prg_2 hg2 hm2 ha hb na na2 hp2) nb) fun σ H Q ⟨G, own, ok, fin⟩ => E_bind FinO.wish ok fin fun i v G1 H1 g ok1 d r => E_bind FinO.wish ok1 r fun j u G2 H2 g2 ok2 d2 r2 => by
    cases d; cases d2
    unfold rngL at r2
    split at r2
    · rename_i h
      simp only [okI, Bool.and_eq_true, decide_eq_true_eq] at h
      refine ⟨i, j, rfl, rfl, ⟨h.1.1.1, h.1.1.2, h.1.2.1, h.1.2.2, Nat.le_trans h.2 (by decide)⟩, fun q hq => r2 q _ G2 _ (Grow.allocO ok2.gh hq) hq upd_same (Same.free ok2.gh hq) (DenL.rgV i j)⟩
    · exact r2.elim

/-! ### isinstance -/
theorem e_isi {m : M α} {t : α → Bool} {cv : V} {u : Value} (hm : X.mg "isinstance" = none) (hT : ClsV cv u)
    (hty : ∀ z v G H own, Same G H → DenB X J G H own v (enc z) → ∃ t', TyX X.K H v t' ∧ PySem.W.kitOne X.K t' u = some (t z)) (h : PA X [a, b] (tCons (tEb X J S enc m) (tCons (tC cv) tNil))) (hg : Gl X "isinstance" := by rfl)
    (he : starEach (a :: [b]) X.env = (false, eval a X.env) :: starEach [b] X.env := by rfl) (hpl : (backTo pos (starEach [b] X.env)).any (·.1) = false := by rfl) : DE X J S (.Call (.Name "isinstance" p) [a, b] [] pos) eB (mb m fun z => .ok (t z)) :=
  pe_imp (pe_callB call_isi hg hm PyProof.Rows.boot_isinstance h (by decide) (by decide) he hpl) fun σ H Q ⟨G, own, ok, fin⟩ => B_bind Fin.wish ok fin fun z v G1 H1 g ok1 d r => by
    obtain ⟨t', h1, h2⟩ := hty z v G1 H1 own ok1.gh d
    exact ⟨v, cv, t', u, _, rfl, hT, h1, h2, r _ G1 H1 (Grow.refl ok1.gh) (.bl _)⟩
theorem ty_int {T : String} {r : Bool} (h : kitB "int" T = some r) : ∀ (z : Int) v G H own, Same G H → DenB X J G H own v (eI z) → ∃ t', TyX X.K H v t' ∧ PySem.W.kitOne X.K t' (.type T) = some ((fun _ => r) z) :=
  fun z v G H own sg d => ⟨_, .base (by rw [d.int]; exact .int _), kit_ty h⟩
theorem ty_bl {T : String} {r : Bool} (h : kitB "bool" T = some r) : ∀ (z : Bool) v G H own, Same G H → DenB X J G H own v (eB z) → ∃ t', TyX X.K H v t' ∧ PySem.W.kitOne X.K t' (.type T) = some ((fun _ => r) z) :=
  fun z v G H own sg d => ⟨_, .base (by rw [d.bl]; exact .bl _), kit_ty h⟩
theorem ty_str {T : String} {r : Bool} (h : kitB "str" T = some r) : ∀ (z : Str) v G H own, Same G H → DenB X J G H own v (eS z) → ∃ t', TyX X.K H v t' ∧ PySem.W.kitOne X.K t' (.type T) = some ((fun _ => r) z) :=
  fun z v G H own sg d => ⟨_, .base (by rw [d.str]; exact .str _), kit_ty h⟩
theorem ty_lst {T : String} {r : Bool} (h : kitB "list" T = some r) : ∀ (z : List α) v G H own, Same G H → DenB X J G H own v (eL enc z) → ∃ t', TyX X.K H v t' ∧ PySem.W.kitOne X.K t' (.type T) = some ((fun _ => r) z) :=
  fun z v G H own sg d => by
    obtain ⟨q, vs, rfl, h1, h2⟩ := DenB.list sg d
    exact ⟨_, .base (.lst h1), kit_ty h⟩
theorem sqT_ty {K : PySem.W.Frag} {H : Hp} {q : Addr} {vs : List V} (h : SqT K H q vs) : TyX K H (.ref q) (.type "tuple") := by
  rcases h with (h | ⟨o, h⟩) | ⟨o, its, n, h1, h2, _⟩
  · exact .base (.tup h)
  · exact .fTuple h
  · exact .kTuple h1 h2
theorem ty_tup {T : String} {r : Bool} (h : kitB "tuple" T = some r) : ∀ (z : List α) v G H own, Same G H → DenB X J G H own v (eT enc z) → ∃ t', TyX X.K H v t' ∧ PySem.W.kitOne X.K t' (.type T) = some ((fun _ => r) z) :=
  fun z v G H own sg d => by
    obtain ⟨q, vs, rfl, h1, h2⟩ := DenB.tup sg d
    exact ⟨_, sqT_ty h1, kit_ty h⟩

/-! ### == of data -/
structure PdE {α : Type} (enc : α → D) (pd : α → PyData) (n : Nat) : Prop where
  dp : ∀ {K : PySem.W.Frag} {ca : Str → Addr} {G H : Hp} {v : V} {x : α}, Same G H → Den K ca G v (enc x) → Dp K H v (pd x)
  lay : ∀ x, (pd x).canLay0 = true
  dep : ∀ x, (pd x).depth ≤ n
  eq : ∀ x y, PyData.eqv (pd x) (pd y) = true ↔ x = y
theorem pd_int : PdE eI PyData.int 1 := ⟨fun _ d => by cases d; exact .int _, fun _ => rfl, fun _ => by simp [PyData.depth], fun x y => by simp [PyData.eqv]⟩
theorem pd_bl : PdE eB PyData.bool 1 := ⟨fun _ d => by cases d; exact .bl _, fun _ => rfl, fun _ => by simp [PyData.depth], fun x y => by simp [PyData.eqv]⟩
theorem pd_all {pd : α → PyData} {n : Nat} (h : PdE enc pd n) : (∀ {K : PySem.W.Frag} {ca : Str → Addr} {G H : Hp} {vs : List V} {xs : List α}, Same G H → DenL K ca G vs (xs.map enc) → DpAll K H vs (xs.map pd)) ∧ (∀ xs : List α, PyData.canLayAll0 (xs.map pd) = true) ∧
    (∀ xs : List α, PyData.depthAll (xs.map pd) ≤ n) ∧ ∀ xs ys : List α, PyData.eqvAll (xs.map pd) (ys.map pd) = true ↔ xs = ys := by
  refine ⟨fun {K ca G H vs xs} sg => ?_, fun xs => ?_, fun xs => ?_, fun xs => ?_⟩
  · induction xs generalizing vs with
    | nil => intro d; cases d; exact .nil
    | cons x xs ih => intro d; cases d with | cons d1 d2 => exact .cons (h.dp sg d1) (ih d2)
  · induction xs with
    | nil => rfl
    | cons x xs ih => rw [List.map_cons, PyData.canLayAll0, h.lay, ih]; rfl
  · induction xs with
    | nil => simp [PyData.depthAll]
    | cons x xs ih =>
      rw [List.map_cons, PyData.depthAll]
      exact Nat.max_le.mpr ⟨h.dep x, ih⟩
  · induction xs with
    | nil => intro ys; cases ys <;> simp [PyData.eqvAll]
    | cons x xs ih =>
      intro ys
      cases ys with
      | nil => simp [PyData.eqvAll]
      | cons y ys =>
        rw [List.map_cons, List.map_cons, PyData.eqvAll, Bool.and_eq_true, h.eq, ih, List.cons.injEq]
theorem pd_lst {pd : α → PyData} {n : Nat} (h : PdE enc pd n) : PdE (eL enc) (fun xs => .list (xs.map pd)) (n + 1) := by
  obtain ⟨h1, h2, h3, h4⟩ := pd_all h
  refine ⟨fun sg d => ?_, fun x => h2 x, fun x => ?_, fun x y => ?_⟩
  · cases d with | lst q t => exact .lst (SqL.of (sg _ _ q)) (h1 sg t)
  · simp only [PyData.depth]; have := h3 x; omega
  · rw [PyData.eqv]; exact h4 x y
theorem pd_tup {pd : α → PyData} {n : Nat} (h : PdE enc pd n) : PdE (eT enc) (fun xs => .tuple (xs.map pd)) (n + 1) := by
  obtain ⟨h1, h2, h3, h4⟩ := pd_all h
  refine ⟨fun sg d => ?_, fun x => h2 x, fun x => ?_, fun x y => ?_⟩
  · cases d with | tup q t => exact .tup (same_seqT sg q) (h1 sg t)
  · simp only [PyData.depth]; have := h3 x; omega
  · rw [PyData.eqv]; exact h4 x y
/-- lent lists as well -/
theorem DenB.dp {pd : α → PyData} {n : Nat} {G H : Hp} {own : Addr → Option Nat} {v : V} {x : α} (h : PdE enc pd n) (sg : Same G H) (d : DenB X J G H own v (enc x)) : Dp X.K H v (pd x) := by
  rcases d with d | ⟨q, vs, ds, rfl, e, h3, h4, h5⟩
  · exact h.dp sg d
  · have d' : Den X.K J.ca (upd G q (.lst vs)) (.ref q) (enc x) := by
      rw [e]
      exact .lst upd_same (h4.mono (same_upd h5))
    exact h.dp (H := H) (fun b o z => by
      by_cases hb : b = q
      · subst hb; rw [upd_same] at z; cases z; exact h3
      · rw [upd_ne hb] at z; exact sg _ _ z) d'
theorem c_eqD [DecidableEq α] {pd : α → PyData} {n : Nat} (h : PdE enc pd n) (hn : n ≤ 64) (hu : X.A.units + 64 < cLine) : CmpD X J .Eq enc enc fun x y => decide (x = y) := ⟨_, op_eqD hu, fun x y v u G H own Q sg d1 d2 q => by
  have sh : ∀ z, SeqAt.shaped (pd z) = true := fun z => by
    unfold SeqAt.shaped
    rw [h.lay, decide_eq_true (Nat.le_trans (h.dep z) hn)]; rfl
  refine ⟨pd x, pd y, d1.dp h sg, d2.dp h sg, sh x, sh y, ?_⟩
  rw [show PyData.eqv (pd x) (pd y) = decide (x = y) by rw [Bool.eq_iff_iff, h.eq, decide_eq_true_eq]]
  exact q⟩
theorem c_neD [DecidableEq α] {pd : α → PyData} {n : Nat} (h : PdE enc pd n) (hn : n ≤ 64) (hu : X.A.units + 64 < cLine) : CmpD X J .NotEq enc enc fun x y => !decide (x = y) := ⟨_, op_neD hu, fun x y v u G H own Q sg d1 d2 q => by
  have sh : ∀ z, SeqAt.shaped (pd z) = true := fun z => by
    unfold SeqAt.shaped
    rw [h.lay, decide_eq_true (Nat.le_trans (h.dep z) hn)]; rfl
  refine ⟨pd x, pd y, d1.dp h sg, d2.dp h sg, sh x, sh y, ?_⟩
  rw [show PyData.eqv (pd x) (pd y) = decide (x = y) by rw [Bool.eq_iff_iff, h.eq, decide_eq_true_eq]]
  exact q⟩
end
end DL

namespace DL
open PySem PySem.Spec PyProof.Rows L2
variable {X : Cx} {J : Jx}

/-! ### exceptions of own classes are made -/
theorem mkN {CX : CXT} {x : Str} {C fI : Addr} {k : Nat} {fd : FuncData} {ps : List Str} {sp : Sp} {e : Expr} {es : List Expr} {ta : TA} {p pos : Pos}
    (T : OexC X.K C) (hI : PySem.W.findIn X.K (.ref C) "__init__" = some (some (.ref fI)))
    (hT : PySem.W.typeIn X.K (.ref fI) = some (.type "function")) (F1 : FnOk X.prog X.w X.K X.mg X.base CX k fI fd ps sp)
    (hr : Room (k + 1) X.A) (hb : Binds X.K fd ps []) (hx : Passes CX X fun _ _ _ => False) (hg : Gl X x)
    (hm : X.mg x = some (.ref C)) (ha : PA X (e :: es) ta) (hdb : (x == ("__debug__" : Str)) = false)
    (he : starEach (e :: es) X.env = (false, eval e X.env) :: starEach es X.env)
    (hpl : (backTo pos (starEach es X.env)).any (·.1) = false) :
    L2N.PMk X (.Call (.Name x p) (e :: es) [] pos) (tMkO C sp [] ta) := by
  intro pins s σ H Q I h
  obtain ⟨nm, q, N, bs, bm, sn, sub, ab, col, dd, k0, k1, k2, k3, k5, hC, hbm⟩ := T.cls
  refine wpAny_Call_Name_kw (ld_glob I hg hm ?_ hdb)
  refine PySem.W.callWith_K (h₀ := X.base) I.ok.mod.kin T.kC
    (thn (ha.run pos pins s σ H _ I h) fun us t ⟨vs, H1, I1, r1, hz, q1⟩ => ⟨I1.kIn, ?_⟩) he hpl
  obtain ⟨hp, g, dr, tk, os⟩ := t
  have hsz : hp.objs.size ≤ hp.objs.size + 1 := Nat.le_succ _
  have hq := q1 (hp.objs.size + 1) (I1.hok.fresh hsz)
  have kk : ∀ b o, hp.get? b = some o →
      ((hp.push (PySem.W.kdv_tup us)).push (PySem.HandSPX.excO C hp.objs.size)).get? b = some o :=
    fun b o z => Heap.get?_push_of_some _ (Heap.get?_push_of_some _ z)
  have hnew : ((hp.push (PySem.W.kdv_tup us)).push (PySem.HandSPX.excO C hp.objs.size)).get? (hp.objs.size + 1) =
      some (PySem.HandSPX.excO C hp.objs.size) := by heap_get
  have I2 := I1.laid (t' := tk) kk hsz (o := exo (hp.objs.size + 1) C none) (exo_ok hnew)
  have r2 : Vals (V.ref (hp.objs.size + 1) :: (vs ++ [])) (Value.ref (hp.objs.size + 1) :: (us ++ [])) := .cons rfl (r1.append .nil)
  have hl : (Value.ref (hp.objs.size + 1) :: us ++ []).length = ps.length := by
    have z := r2.length
    rw [F1.len _ _ _ _ hq] at z
    exact z.symm
  have hus : us.length ≤ sizeLine := by rw [← Paired.length r1]; exact Nat.le_trans hz (by decide)
  have hbb : BindsTo ⟨(hp.push (PySem.W.kdv_tup us)).push (PySem.HandSPX.excO C hp.objs.size), g, dr, tk, os⟩ fd
      ⟨Value.ref (hp.objs.size + 1) :: us, []⟩ (ps.zip (Value.ref (hp.objs.size + 1) :: (us ++ []))) :=
    hb _ (Value.ref (hp.objs.size + 1) :: us) I2.kIn hl
  show wpAny _ _ (call (.ref C) us) _ _ _
  refine wpAny_call (PySem.HandSPX.call_own F.excBase_ValueError
    (fun Y => PySem.HandSPX.refsVE_contains Y bm hbm) (I1.kIn _ _ hC)
    (PySem.W.looks_findIn I1.kIn hI) (fun self => PySem.W.bind_fn I1.kIn self hT) hus
    (codeAny_mono (F1.run _ X.stack _ _ ⟨Value.ref (hp.objs.size + 1) :: us, []⟩ (Value.ref (hp.objs.size + 1) :: (us ++ []))
      _ _ (fun _ _ _ => False) (hr.make C us []) (I2.env0.make C us [])
      hbb r2 hq) fun r s' z => ?_))
  cases r with
  | error er => exact hx pins σ _ _ er s' I2 z
  | ok fl =>
    cases fl with
    | ret u =>
      obtain ⟨v, H2, os2, bare2, un2, hok2, rv, ev, d, fs, ea, ed, hd1, q2⟩ := z
      subst ev
      obtain ⟨h2, g2, d2, t2, os'⟩ := s'
      obtain ⟨t0, G, J', kG, ge, hoe, na⟩ := mk_end0 (d2 := d2) (t2 := t2) I1 hsz kk un2 hok2 os2 bare2 ea ed hd1
      exact ⟨rv, hp.objs.size + 1, _, _, ⟨G, g2, d2, t2, os'⟩, _, .ref C, some d, rfl, J', kG, ge, hoe,
        ⟨rfl, rfl, fun vs hv => by cases hv; rfl⟩, rfl, rfl, na, rfl, bare2, raises_own T.exC T.tyC, q2⟩
    | next => exact z.elim
    | brk => exact z.elim
    | cont => exact z.elim

/-- __init__(self, f): self.f = f -/
def spI1 (K : PySem.W.Frag) (C : Addr) (f : Str) : Sp := fun vs H Q _ => ∃ (a : Addr) (v : V), vs = [.ref a, v] ∧ H a = some (exo a C none) ∧
  ∀ d, H d = none → d ≠ a → Q .non (upd (upd H d (exd d [(f, v)])) a (exo a C (some d)))
/-- __init__(self, f, g): both stored -/
def spI2 (K : PySem.W.Frag) (C : Addr) (f g : Str) : Sp := fun vs H Q _ => ∃ (a : Addr) (v w : V), vs = [.ref a, v, w] ∧ H a = some (exo a C none) ∧
  ∀ d, H d = none → d ≠ a → Q .non (upd (upd (upd H d (exd d [(f, v)])) a (exo a C (some d))) d (exd d [(g, w), (f, v)]))
/-- what the written part says of such a class and its __init__ -/
structure Xc (K : PySem.W.Frag) (mg : Str → Option Value) (ca : Str → Addr) (cn : Str) (fI : Addr) : Prop where
  ox : OexC K (ca cn)
  xf : XfC K (ca cn)
  ini : PySem.W.findIn K (.ref (ca cn)) "__init__" = some (some (.ref fI))
  tf : PySem.W.typeIn K (.ref fI) = some (.type "function")
  gm : mg cn = some (.ref (ca cn))
  em : PySem.W.exmOne K (.ref (ca cn)) (.ref (ca cn)) = some true
section
variable {P : Program} {w : World} {K : PySem.W.Frag} {mg : Str → Option Value} {base : Heap} {CX : CXT}
theorem init1_ok {cn qual f : Str} {st : Stmt} {fI : Addr} {fd : FuncData} {ca : Str → Addr} {p1 p2 p3 p4 : Pos} (T : Xc K mg ca cn fI) (F : Fun K "__init__" qual st fI fd)
    (hb : defBody st = [.Assign [.Attribute (.Name "self" p1) f p2] (.Name f p3) p4]) (S : FnScope ["self", f] ["self", f] (defScope st)) (hno : PySem.W.findIn K (.ref (ca cn)) f = some none)
    (v1 : Vis (defScope st) "self") (v2 : Vis (defScope st) f) (d1 : (f == ("__debug__" : Str)) = false) (d2 : (f == ("__classdict__" : Str)) = false)
    (hsw : ∀ env : Env, env.scope = defScope st → swapsWith (.Name f p3) (some (.Attribute (.Name "self" p1) f p2)) p4.line env = pure false) :
    FnOk P w K mg base CX 1 fI fd ["self", f] (spI1 K (ca cn) f) := by
  obtain ⟨oc, od, kV, doc, pm, an, cdv, ct, osl, rfl, lk, hcd⟩ := F.ex
  refine fn_of lk hcd S (fun vs H Q E ⟨a, v, e, _⟩ => by rw [e]; rfl) fun A outer s H vs Q E hr ⟨a, v, e, ha, q⟩ => ?_
  subst e
  rw [hb]
  refine ⟨_, pss_one (ps_ost (pe_var (i := 0) rfl v1) (pe_var (i := 1) rfl v2 d1 d2) (hsw _ rfl)), ?_⟩
  exact ⟨v, rfl, .ref a, rfl, a, ca cn, rfl, T.ox, hno, .inl ⟨ha, fun dx h1 h2 => q dx h1 h2⟩⟩
theorem init2_ok {cn qual f g : Str} {st : Stmt} {fI : Addr} {fd : FuncData} {ca : Str → Addr} {p1 p2 p3 p4 q1 q2 q3 q4 : Pos} (T : Xc K mg ca cn fI) (F : Fun K "__init__" qual st fI fd)
    (hb : defBody st = [.Assign [.Attribute (.Name "self" p1) f p2] (.Name f p3) p4, .Assign [.Attribute (.Name "self" q1) g q2] (.Name g q3) q4]) (S : FnScope ["self", f, g] ["self", f, g] (defScope st))
    (hno : PySem.W.findIn K (.ref (ca cn)) f = some none) (hno2 : PySem.W.findIn K (.ref (ca cn)) g = some none)
    (v1 : Vis (defScope st) "self") (v2 : Vis (defScope st) f) (v3 : Vis (defScope st) g) (d1 : (f == ("__debug__" : Str)) = false) (d2 : (f == ("__classdict__" : Str)) = false) (d3 : (g == ("__debug__" : Str)) = false) (d4 : (g == ("__classdict__" : Str)) = false)
    (hsw : ∀ env : Env, env.scope = defScope st → swapsWith (.Name f p3) (some (.Attribute (.Name "self" p1) f p2)) p4.line env = pure false)
    (hsw2 : ∀ env : Env, env.scope = defScope st → swapsWith (.Name g q3) (some (.Attribute (.Name "self" q1) g q2)) q4.line env = pure false) :
    FnOk P w K mg base CX 1 fI fd ["self", f, g] (spI2 K (ca cn) f g) := by
  obtain ⟨oc, od, kV, doc, pm, an, cdv, ct, osl, rfl, lk, hcd⟩ := F.ex
  refine fn_of lk hcd S (fun vs H Q E ⟨a, v, w, e, _⟩ => by rw [e]; rfl) fun A outer s H vs Q E hr ⟨a, v, w, e, ha, q⟩ => ?_
  subst e
  rw [hb]
  refine ⟨_, pss_cons (ps_ost (pe_var (i := 0) rfl v1) (pe_var (i := 1) rfl v2 d1 d2) (hsw _ rfl)) (pss_one (ps_ost (pe_var (i := 0) rfl v1) (pe_var (i := 2) rfl v3 d3 d4) (hsw2 _ rfl))), ?_⟩
  refine ⟨v, rfl, .ref a, rfl, a, ca cn, rfl, T.ox, hno, .inl ⟨ha, fun dx h1 h2 => ?_⟩⟩
  refine ⟨w, rfl, .ref a, rfl, a, ca cn, rfl, T.ox, hno2, .inr ⟨dx, [(f, v)], upd_same, ?_, (by show 1 ≤ 900; decide), q dx h1 h2⟩⟩
  rw [upd_ne h2, upd_same]
end

section
variable {α β γ δ ρ : Type} {S S1 : List Sl} {N : β → List Sl} {L : γ → List Sl} {R : ρ → RV} {enc : α → D} {a b c e : Expr} {es : List Expr} {pos p : Pos} {k j : Nat} {rest body : List Stmt}
theorem pass_no {hx : L2N.Takes X J.W} : Passes (L2N.CX X.prog X.w) X fun _ _ _ => False := L2N.passes_call hx fun _ _ _ _ h => h.elim
/-- raise X(e), X's __init__ stores one field -/
theorem ss_raise1 {m : M α} {cn f : Str} {fI : Addr} {fd : FuncData} (C : CxD X J k) (hk : 2 ≤ k) (T : Xc X.K X.mg J.ca cn fI) (F1 : FnOk X.prog X.w X.K X.mg X.base (L2N.CX X.prog X.w) 1 fI fd ["self", f] (spI1 X.K (J.ca cn) f)) (hb : Binds X.K fd ["self", f] [])
    (ha : PA X [e] (tCons (tE X J S enc m) tNil)) (hw : Wk S J.Sx) (hg : Gl X cn := by rfl) (hdb : (cn == ("__debug__" : Str)) = false := by decide) (he : starEach (e :: []) X.env = (false, eval e X.env) :: starEach [] X.env := by rfl) (hpl : (backTo pos (starEach [] X.env)).any (·.1) = false := by rfl) {pos2 : Pos} :
    DSs X J S (.Raise (some (.Call (.Name cn p) [e] [] pos)) none pos2 :: rest) N L R (mb m fun z => .er ⟨cn, [(f, enc z)]⟩) :=
  pss_imp (pss_cons (L2N.ps_raise C.calm C.tk (mkN T.ox T.ini T.tf F1 (C.room.mono hk) hb (pass_no (hx := C.tk)) hg T.gm ha hdb he hpl)) pss_never) fun Dn σ H ⟨G, own, ok, fin⟩ =>
    E_bind (FinS.wish hw) ok ⟨fin, ok⟩ fun z v G1 H1 g ok1 d r => by
      refine ⟨(by decide : 1 ≤ 1000), fun a hn => ⟨a, v, rfl, upd_same, fun dx h1 h2 => ?_⟩⟩
      have hd1 : H1 dx = none := by rw [upd_ne h2] at h1; exact h1
      refine ⟨rfl, dx, [(f, v)], upd_same, by rw [upd_ne h2, upd_same], hd1, ?_⟩
      refine r.1 (.ref (J.ca cn)) (some dx) σ G1 _ own (Same.refl _) ?_ ⟨rfl, .inr ⟨dx, _, rfl, upd_same, .cons d .nil⟩⟩
      refine (ok1.grow ⟨Same.refl _, fun b o z => ?_, fun b o z => ?_, fun _ _ => rfl⟩).weak hw
      · have n1 : b ≠ a := ne_of_none z hn
        have n2 : b ≠ dx := ne_of_none z hd1
        rw [upd_ne n2, del_ne n1, upd_ne n1, upd_ne n2, upd_ne n1]; exact z
      · have z' := ok1.gh b o z
        have n1 : b ≠ a := ne_of_none z' hn
        have n2 : b ≠ dx := ne_of_none z' hd1
        rw [upd_ne n2, del_ne n1, upd_ne n1, upd_ne n2, upd_ne n1]; exact z'
theorem ss_raise2 {enb : β → D} {m : M α} {n : M β} {cn f g : Str} {fI : Addr} {fd : FuncData} {N : δ → List Sl} (C : CxD X J k) (hk : 2 ≤ k) (T : Xc X.K X.mg J.ca cn fI) (F1 : FnOk X.prog X.w X.K X.mg X.base (L2N.CX X.prog X.w) 1 fI fd ["self", f, g] (spI2 X.K (J.ca cn) f g)) (hb : Binds X.K fd ["self", f, g] [])
    (ha : PA X [e, c] (tCons (tE X J S enc m) (tCons (tE X J S enb n) tNil))) (hw : Wk S J.Sx) (hg : Gl X cn := by rfl) (hdb : (cn == ("__debug__" : Str)) = false := by decide) (he : starEach (e :: [c]) X.env = (false, eval e X.env) :: starEach [c] X.env := by rfl) (hpl : (backTo pos (starEach [c] X.env)).any (·.1) = false := by rfl) {pos2 : Pos} :
    DSs X J S (.Raise (some (.Call (.Name cn p) [e, c] [] pos)) none pos2 :: rest) N L R (mb m fun z => mb n fun y => .er ⟨cn, [(g, enb y), (f, enc z)]⟩) :=
  pss_imp (pss_cons (L2N.ps_raise C.calm C.tk (mkN T.ox T.ini T.tf F1 (C.room.mono hk) hb (pass_no (hx := C.tk)) hg T.gm ha hdb he hpl)) pss_never) fun Dn σ H ⟨G, own, ok, fin⟩ =>
    E_bind (FinS.wish hw) ok ⟨fin, ok⟩ fun z v G0 H0 g0 ok0 d0 r0 => E_bind (FinS.wish hw) ok0 r0 fun y w G1 H1 g1 ok1 d1 r => by
      refine ⟨(by decide : 2 ≤ 1000), fun a hn => ⟨a, v, w, rfl, upd_same, fun dx h1 h2 => ?_⟩⟩
      have hd1 : H1 dx = none := by rw [upd_ne h2] at h1; exact h1
      refine ⟨rfl, dx, [(g, w), (f, v)], by rw [upd_ne (Ne.symm h2), upd_same], upd_same, hd1, ?_⟩
      refine r.1 (.ref (J.ca cn)) (some dx) σ G1 _ own (Same.refl _) ?_ ⟨rfl, .inr ⟨dx, _, rfl, upd_same, .cons d1 (.cons (d0.mono g1.g) .nil)⟩⟩
      refine (ok1.grow ⟨Same.refl _, fun b o z => ?_, fun b o z => ?_, fun _ _ => rfl⟩).weak hw
      · have n1 : b ≠ a := ne_of_none z hn
        have n2 : b ≠ dx := ne_of_none z hd1
        rw [upd_ne n2, del_ne n1, upd_ne n2, upd_ne n1, upd_ne n2, upd_ne n1]; exact z
      · have z' := ok1.gh b o z
        have n1 : b ≠ a := ne_of_none z' hn
        have n2 : b ≠ dx := ne_of_none z' hd1
        rw [upd_ne n2, del_ne n1, upd_ne n2, upd_ne n1, upd_ne n2, upd_ne n1]; exact z'

/-! ### try: .. except X as n: .. -/
def noEr {α : Type} (m : M α) : M α := match m with
  | .ok x => .ok x
  | _ => .no
@[simp] theorem noEr_ok {α : Type} (x : α) : noEr (.ok x) = .ok x := rfl
def tryM {β γ ρ : Type} (cn : Str) (m : M (Out β γ ρ)) (f : List (Str × D) → M (Out β γ ρ)) : M (Out β γ ρ) := match m with
  | .er x => if x.cls = cn then noEr (f x.args) else .no
  | .ok o => .ok o
  | .no => .no
@[simp] theorem tryM_ok {β γ ρ : Type} (cn : Str) (o : Out β γ ρ) (f : List (Str × D) → M (Out β γ ρ)) : tryM cn (.ok o) f = .ok o := rfl
theorem tryM_er {β γ ρ : Type} (cn : Str) (a : List (Str × D)) (f : List (Str × D) → M (Out β γ ρ)) : tryM cn (.er ⟨cn, a⟩) f = noEr (f a) := if_pos rfl
abbrev js (J : Jx) : Jx := ⟨J.ca, fun _ _ _ _ => False, J.B, []⟩
theorem Ok.unset {K : PySem.W.Frag} {ca : Str → Addr} {B : Bs} {G H : Hp} {own : Addr → Option Nat} {σ : L2.St} {i : Nat} (k : Ok K ca B G H own σ S) (hi : S[i]? = some .un) : Ok K ca B G H own (σ.set i none) S := by
  refine ⟨by simpa using k.ln, k.gh, k.g0, k.h0, k.gn, k.ow, fun j s e => ?_⟩
  by_cases hj : j = i
  · subst hj
    rw [hi] at e; cases e; trivial
  · rw [List.getElem?_set_ne (Ne.symm hj)]; exact k.sl j s e
theorem Ok.setX {K : PySem.W.Frag} {ca : Str → Addr} {B : Bs} {G H : Hp} {own : Addr → Option Nat} {σ : L2.St} {i : Nat} {a : Addr} {d : Option Addr} {fs : List (Str × D)} (k : Ok K ca B G H own σ S) (h : fs = [] ∨ ∃ dd vs, d = some dd ∧ H dd = some (.xd vs) ∧ DenF K ca G vs fs) :
    Ok K ca B G H own (σ.set i (some (.ref a))) (S.set i (.xc a d fs)) := by
  refine ⟨by simpa using k.ln, k.gh, k.g0, k.h0, k.gn, k.ow, fun j s e => ?_⟩
  by_cases hj : j = i
  · subst hj
    have hl : j < S.length := by
      by_cases hl : j < S.length
      · exact hl
      · rw [List.getElem?_eq_none (by simpa using hl)] at e; cases e
    rw [List.getElem?_set_self hl] at e
    cases e
    exact ⟨List.getElem?_set_self (Nat.lt_of_lt_of_le hl k.ln), h⟩
  · rw [List.getElem?_set_ne (Ne.symm hj)] at e
    rw [List.getElem?_set_ne (Ne.symm hj)]
    exact k.sl j s e
/-- within a suite: the exception that is handled -/
structure CxS (X : Cx) (J : Jx) (k : Nat) : Prop where
  hot : L2H.HotC X
  room : L2H.RoomH k X.A
  tk : L2N.Takes X J.W
  nd : X.N.Nodup
theorem ss_try {cn n : Str} {i : Nat} {b₀ : Stmt} {suite : List Stmt} {np pos' : Pos} {mB : M (Out β γ ρ)} {f : List (Str × D) → M (Out β γ ρ)} (C : CxD X J k) (hs : X.stack = X.env :: X.outer) (hf : X.env.frame = some X.env.locals) (hln : X.env.kindOf n = some .local) (hgl : Gl X cn) (hgm : X.mg cn = some (.ref (J.ca cn)))
    (hem : PySem.W.exmOne X.K (.ref (J.ca cn)) (.ref (J.ca cn)) = some true) (hi : X.N[i]? = some n) (hd : (cn == ("__debug__" : Str)) = false)
    (hb : ∀ (W : WX) (pn : List (Addr × Obj)) (xe : Value → Shared → Prop), CxD (X.tr pn xe) ⟨J.ca, W, J.B, S1⟩ k → DSs (X.tr pn xe) ⟨J.ca, W, J.B, S1⟩ S body N L R mB)
    (hsu : ∀ (a : Addr) (oe : Obj) (cls : Value) (d : Option Addr) (pn : List (Addr × Obj)) (args : List (Str × D)), CxS (X.suite a ((a, oe) :: pn)) (js J) k → Zc cls d oe → (∃ vs, oe.data = .fields vs) → cls = .ref (J.ca cn) → DSs (X.suite a ((a, oe) :: pn)) (js J) (S1.set i (.xc a d args)) (b₀ :: suite) N L R (f args))
    (hN : ∀ b, (N b)[i]? = some .un) (hL : ∀ b, (L b)[i]? = some .un) :
    DS X J S (.Try body [.ExceptHandler (some (.Name cn np)) (some n) (b₀ :: suite) pos'] [] [] pos) N L R (tryM cn mB f) := by
  have hA : ∀ (a : Addr) (oe : Obj) (cls : Value) (d : Option Addr) (pn : List (Addr × Obj)), L2N.Zn cls d oe → (∃ vs, oe.data = .fields vs) → CxS (X.suite a ((a, oe) :: pn)) (js J) k := fun a oe cls d pn hz ⟨vs, hv⟩ =>
    ⟨⟨(a, oe), ⟨rfl, vs, hv, hz.2.2 vs hv⟩, List.mem_cons_self⟩, L2H.roomH_mark C.room _, takesN, C.nd⟩
  refine ps_imp (L2N.ps_try_as (Wout := J.W) hs hf C.nd hi hln ⟨hgl, hd, .inl hgm⟩ C.tk
    (tb := fun W => tS X ⟨J.ca, W, J.B, S1⟩ S N L R mB)
    (ts := fun a cls d Dn σ H => ∃ args, cls = .ref (J.ca cn) ∧ tS X (js J) (S1.set i (.xc a d args)) N L R (f args) Dn σ H)
    (fun W pn xe tk po => hb W pn xe ⟨C.calm, tk, po, C.room, C.nd⟩) (fun a oe cls d pn hz hv => ?_)) fun Dn σ H ⟨G, own, ok, fin⟩ => ?_
  · refine ⟨fun pins s σ H D I ⟨args, hc, q⟩ => ?_⟩
    exact (hsu a oe cls d pn args (hA a oe cls d pn hz hv) hz.zc hv hc).run pins s σ H D I q
  · refine ⟨G, own, ok, ?_⟩
    cases hmB : mB with
    | ok o =>
      rw [hmB] at fin
      cases o with
      | nx b => exact fin
      | rt r => exact fin
      | bk c => exact fin
      | ct c => exact fin
    | no => rw [hmB] at fin; exact fin
    | er x =>
      rw [hmB] at fin
      intro cls d σ' G' H' own' sg ok' ra
      by_cases hx : x.cls = cn
      · have fin2 : FinS X J N L R Dn G (noEr (f x.args)) := by
          unfold tryM at fin
          simp only [if_pos hx] at fin
          exact fin
        obtain ⟨hc, hd2⟩ := ra
        rw [hx] at hc
        refine ⟨true, by rw [hc]; exact hem, fun _ a hn => ⟨x.args, hc, G', own', ok'.setX hd2, ?_⟩, fun z => by cases z⟩
        have fin3 := fin2.mono sg
        cases hfa : f x.args with
        | no => rw [hfa] at fin3; exact fin3.elim
        | er y => rw [hfa] at fin3; exact fin3.elim
        | ok o =>
          rw [hfa] at fin3
          cases o with
          | nx b => exact fun σ2 G2 H2 own2 s2 k2 => fin3 _ G2 H2 own2 s2 (Ok.unset k2 (hN b))
          | rt r => exact fin3
          | bk c => exact fun σ2 G2 H2 own2 s2 k2 => fin3 _ G2 H2 own2 s2 (Ok.unset k2 (hL c))
          | ct c => exact fun σ2 G2 H2 own2 s2 k2 => fin3 _ G2 H2 own2 s2 (Ok.unset k2 (hL c))
      · unfold tryM at fin
        simp only [if_neg hx] at fin
        exact fin.elim
/-! ### within a suite -/
def fldI (a : List (Str × D)) (f : Str) : M Int := match a.lookup f with
  | some (.int i) => .ok i
  | _ => .no
def fldB (a : List (Str × D)) (f : Str) : M Bool := match a.lookup f with
  | some (.bl i) => .ok i
  | _ => .no
/-- e.f of the caught exception -/
theorem e_xf {α : Type} {enc : α → D} {m : M α} {f x : Str} {a C : Addr} {oe : Obj} {cls : Value} {d : Option Addr} {pn : List (Addr × Obj)} {args : List (Str × D)} {i : Nat} (T : XfC X.K C) (hno : PySem.W.findIn X.K (.ref C) f = some none)
    (hz : Zc cls d oe) (hf : ∃ vs, oe.data = .fields vs) (hc : cls = .ref C) (hs : S[i]? = some (.xc a d args)) (hp : PE (X.suite a ((a, oe) :: pn)) (.Name x p) (tVar i)) (hm : ∀ z, m = .ok z → args.lookup f = some (enc z)) (hne : ∀ y, m ≠ .er y)
    (hb : attributeBase (.Name x p) f X.env (eval (.Name x p) X.env) = eval (.Name x p) X.env := by rfl) :
    DE (X.suite a ((a, oe) :: pn)) J S (.Attribute (.Name x p) f pos) enc m :=
  pe_imp (pe_xf T hno hz hf hp hb) fun σ H Q ⟨G, own, ok, fin⟩ => by
    obtain ⟨h1, h2⟩ := ok.sl i _ hs
    cases m with
    | no => exact fin.elim
    | er y => exact absurd rfl (hne y)
    | ok z =>
      have hl := hm z rfl
      rcases h2 with h2 | ⟨dd, vs, h2, h3, h4⟩
      · rw [h2] at hl; cases hl
      · obtain ⟨v, e1, e2⟩ := h4.lookup hl
        exact ⟨.ref a, h1, rfl, hc, dd, vs, v, h2, h3, e1, fin v G H (Grow.refl ok.gh) e2⟩
theorem fldI_ok {args : List (Str × D)} {f : Str} : (∀ z, fldI args f = .ok z → args.lookup f = some (eI z)) ∧ ∀ y, fldI args f ≠ .er y := by
  unfold fldI
  constructor
  · intro z h
    split at h
    · cases h; assumption
    · cases h
  · intro y
    split <;> exact fun h => by cases h
theorem fldB_ok {args : List (Str × D)} {f : Str} : (∀ z, fldB args f = .ok z → args.lookup f = some (eB z)) ∧ ∀ y, fldB args f ≠ .er y := by
  unfold fldB
  constructor
  · intro z h
    split at h
    · cases h; assumption
    · cases h
  · intro y
    split <;> exact fun h => by cases h
/-- a def called there -/
theorem e_callH {α ρ : Type} {encs : α → List Sl} {enr : ρ → D} {f : Addr} {fd : FuncData} {ps : List Str} {x : Str} {code : α → M ρ} {n : M α} (C : CxS X J k) (hj : j ≤ k) (F : L2H.FnH X.prog X.w X.K X.mg X.base (L2N.CX X.prog X.w) j f fd ps (spE X.K J.ca encs enr code)) (hm : X.mg x = some (.ref f)) (hk : PySem.W.keepIn X.K (.ref f) = true) (hb : Binds X.K fd ps [])
    (h : DX X J S (e :: es) encs n) (hg : Gl X x := by rfl) (hdb : (x == ("__debug__" : Str)) = false := by decide) (he : starEach (e :: es) X.env = (false, eval e X.env) :: starEach es X.env := by rfl) (hpl : (backTo pos (starEach es X.env)).any (·.1) = false := by rfl) :
    DE X J S (.Call (.Name x p) (e :: es) [] pos) enr (mb n code) :=
  pe_imp (L2H.pe_callH F (C.room.mono hj) C.hot hg hm hk hb (fun σ => L2N.passAt C.tk σ) h hdb he hpl) fun σ H Q ⟨G, own, ok, fin⟩ => X_bind Fin.wish ok fin fun z vs G1 H1 g1 ok1 d r => by
    show spE X.K J.ca encs enr code vs H1 Q _
    refine ⟨z, G1, ok1.gh, d, ?_⟩
    cases hc : code z with
    | ok y => rw [hc] at r; show spR X.K J.ca G1 H1 (mb (code z) _) Q _; rw [hc]; exact fun v G' H' g dv => r v G' H' g dv
    | er q => rw [hc] at r; show spR X.K J.ca G1 H1 (mb (code z) _) Q _; rw [hc]; exact fun cls dd G' H' g ra => r cls dd G' H' g ra
    | no => rw [hc] at r; exact r.elim
/-- .. by its body -/
theorem fn_okH {P : Program} {w : World} {K : PySem.W.Frag} {mg : Str → Option Value} {base : Heap} {x qual : Str} {st : Stmt} {f : Addr} {fd : FuncData} {Ns ps : List Str} {k n : Nat} {ca : Str → Addr} {α β γ ρ : Type} {encA : α → List Sl} {R : ρ → RV} {Nx : α → β → List Sl} {L : α → γ → List Sl} {code : α → M (Out β γ ρ)}
    (F : Fun K x qual st f fd) (S : FnScope Ns ps (defScope st)) (hl : ∀ a, (encA a).length = ps.length) (hn : ps.length + n = Ns.length)
    (hb : ∀ (cdv : Value) (A : Around) (outer : List Env) (s : Shared) (G H : Hp) (E : XK) (a : α) (q : Addr × Obj), CxS (L2H.cxH (L2N.CX P w) P w K mg base Ns qual (defScope st) f cdv A outer s H E q) (jx ca E G H) k →
      DSs (L2H.cxH (L2N.CX P w) P w K mg base Ns qual (defScope st) f cdv A outer s H E q) (jx ca E G H) (encA a ++ List.replicate n .un) (defBody st) (Nx a) (L a) R (code a)) :
    L2H.FnH P w K mg base (L2N.CX P w) (k + 1) f fd ps (spF K ca encA fun a => fnO R (code a)) := by
  obtain ⟨oc, od, kV, doc, pm, an, cdv, ct, osl, rfl, lk, hcd⟩ := F.ex
  refine L2H.fn_ofH lk hcd S (fun vs H Q E ⟨a, G, e, d, r⟩ => by rw [d.length, hl a]) fun A outer s H vs Q E q hot hr ⟨a, G, e, d, r⟩ => ?_
  have C : CxS (L2H.cxH (L2N.CX P w) P w K mg base Ns qual (defScope st) f cdv A outer s H E q) (jx ca E G H) k :=
    ⟨⟨q, hot, List.mem_singleton.mpr rfl⟩, hr, L2N.takes_of rfl rfl rfl rfl, S.nd⟩
  refine ⟨_, hb cdv A outer s G H E a q C, G, _, ok_start e d (by rw [hl a]; omega), ?_⟩
  have r' : spR K ca G H (fnO R (code a)) Q E := r
  cases hc : code a with
  | ok o =>
    rw [hc] at r'
    cases o with
    | nx b => exact fun σ' G' H' own' sg ok' => r' .non G' H' ok'.base .non
    | rt q =>
      have r2 : spR K ca G H (.ok (R q)) Q E := r'
      show RtK _ _ (R q) Q
      cases hR : R q with
      | fr d => rw [hR] at r2; exact r2
      | ow ds => rw [hR] at r2; exact fun p vs G' H' g h1 h2 h3 h4 => r2 p vs G' H' g h1 h2 h3 h4
      | op ds d => rw [hR] at r2; exact fun t p u vs G' H' g h1 h2 h3 h4 h5 h6 => r2 t p u vs G' H' g h1 h2 h3 h4 h5 h6
    | bk c => exact r'.elim
    | ct c => exact r'.elim
  | er x =>
    rw [hc] at r'
    exact fun cls d σ' G' H' own' sg ok' ra => r' cls d G' H' ok'.base ra
  | no => rw [hc] at r'; exact r'.elim
end
end DL

namespace DL
open PySem PySem.Spec PyProof.Rows L2
variable {X : Cx} {J : Jx}

/-! ### objects under construction -/
def putD (f : Str) (d : D) : List (Str × D) → List (Str × D)
  | [] => [(f, d)]
  | (g, x) :: r => if g = f then (g, d) :: r else (g, x) :: putD f d r
theorem DenF.put {K : PySem.W.Frag} {ca : Str → Addr} {H : Hp} {f : Str} {v : V} {d : D} (h : Den K ca H v d) : ∀ {vs : List (Str × V)} {ds : List (Str × D)}, DenF K ca H vs ds → DenF K ca H (putF f v vs) (putD f d ds)
  | _, _, .nil => .cons h .nil
  | _, _, .cons (f := g) a t => by
    unfold putF putD
    by_cases e : g = f
    · rw [if_pos e, if_pos e]; exact .cons h t
    · rw [if_neg e, if_neg e]; exact .cons a (DenF.put h t)
theorem DenF.length {K : PySem.W.Frag} {ca : Str → Addr} {H : Hp} : ∀ {vs : List (Str × V)} {ds : List (Str × D)}, DenF K ca H vs ds → vs.length = ds.length
  | _, _, .nil => rfl
  | _, _, .cons _ t => congrArg (· + 1) (DenF.length t)
section
variable {α β γ δ ρ : Type} {S : List Sl} {N : β → List Sl} {L : γ → List Sl} {R : ρ → RV} {enc : α → D} {a b c e : Expr} {es : List Expr} {pos p : Pos} {k j : Nat} {rest body : List Stmt}
/-- self.f = e -/
theorem ss_sfld {m : M α} {f : α → M (Out β γ ρ)} {x fl : Str} {Cn : Str} {fs : List (Str × D)} {px p2 : Pos} {q : Addr} (i : Nat) (hs : S[i]? = some (.nw q Cn fs)) (hp : PE X (.Name x px) (tVar i)) (cl : Cls X.K (J.ca Cn)) (na : NoAttr X.K (J.ca Cn) fl) (hl : fs.length < 1000) (he : DE X J S e enc m)
    (hr : ∀ z, DSs X J (S.set i (.nw q Cn (putD fl (enc z) fs))) rest N L R (f z)) (hw : Wk S J.Sx) (hsw : swapsWith e (some (.Attribute (.Name x px) fl p2)) pos.line X.env = pure false := by rfl) :
    DSs X J S (.Assign [.Attribute (.Name x px) fl p2] e pos :: rest) N L R (mb m f) :=
  pss_imp (pss_cons (ps_fld hp he hsw) (pss_ex hr)) fun Dn σ H ⟨G, own, ok, fin⟩ =>
    E_bind (FinS.wish hw) ok ⟨fin, ok⟩ fun z v G1 H1 g1 ok1 d r => by
      obtain ⟨h1, h2, dx, vs, h3, h4⟩ := ok1.sl i _ hs
      have e1 := h4.length
      exact ⟨.ref q, h1, q, J.ca Cn, dx, vs, rfl, h3, cl, na, by rw [e1]; exact hl, z, G1, own, ok1.mutN h3 h2 (h4.put d) h1, r.1⟩
/-- self.f -/
theorem e_sfld {z : α} {x fl : Str} {Cn : Str} {fs : List (Str × D)} {px : Pos} {q : Addr} (i : Nat) (hs : S[i]? = some (.nw q Cn fs)) (hp : PE X (.Name x px) (tVar i)) (cl : Cls X.K (J.ca Cn)) (na : NoAttr X.K (J.ca Cn) fl) (hl : fs.lookup fl = some (enc z))
    (hb : attributeBase (.Name x px) fl X.env (eval (.Name x px) X.env) = eval (.Name x px) X.env := by rfl) : DE X J S (.Attribute (.Name x px) fl pos) enc (.ok z) :=
  pe_imp (pe_fld hp hb) fun σ H Q ⟨G, own, ok, fin⟩ => by
    obtain ⟨h1, h2, dx, vs, h3, h4⟩ := ok.sl i _ hs
    obtain ⟨v, e1, e2⟩ := h4.lookup hl
    exact ⟨.ref q, h1, q, J.ca Cn, dx, vs, v, rfl, h3, cl, na, e1, fin v G H (Grow.refl ok.gh) e2⟩
end
/-- what __init__ answers: the fields behind it -/
def iniO {β γ ρ : Type} (F : β → List (Str × D)) (n : M (Out β γ ρ)) : M (List (Str × D)) := match n with
  | .ok (.nx b) => .ok (F b)
  | .ok _ => .no
  | .er x => .er x
  | .no => .no
def hid (H : Hp) (p : Addr) : Hp := fun b => if b = p then none else H b
theorem hid_ne {H : Hp} {p b : Addr} (h : b ≠ p) : hid H p b = H b := if_neg h
theorem hid_same {H : Hp} {p : Addr} : hid H p p = none := if_pos rfl
/-- __init__(self, ..): at the arguments encA a -/
def spN (K : PySem.W.Frag) (ca : Str → Addr) (Cn : Str) {α : Type} (encA : α → List Sl) (code : α → M (List (Str × D))) : Sp := fun vs H Q E => ∃ (a : α) (p dx : Addr) (ws : List V) (G : Hp), vs = .ref p :: ws ∧ H p = some (.ins (ca Cn) dx []) ∧ G p = none ∧ Same G H ∧ ArgL K ca G (hid H p) ws (encA a) ∧
  match code a with
  | .ok fs => ∀ G' H' gs dy, Same G G' → Same G' H' → (∀ b, b ≠ p → H b ≠ none → H' b = H b) → (∀ b, H b ≠ none → G' b = G b) → H' p = some (.ins (ca Cn) dy gs) → DenF K ca G' gs fs → Q .non H'
  | .er x => ∀ cls d G' H', Same G G' → Same G' H' → (∀ b, b ≠ p → H b ≠ none → H' b = H b) → (∀ b, b ≠ p → H b ≠ none → G' b = G b) → Raised K ca x G' cls d H' → E cls d H'
  | .no => False
/-- nothing is said of the slots at a raise; the object at p is one's own -/
abbrev jn (ca : Str → Addr) (E : XK) (G H : Hp) (p : Addr) : Jx := ⟨ca, fun cls d _ H' => E cls d H', ⟨G, hid H p⟩, []⟩
theorem ok_startN {K : PySem.W.Frag} {ca : Str → Addr} {G H : Hp} {N : List Str} {p dx : Addr} {Cn : Str} {vs : List V} {ss : List Sl} {n : Nat} (e : Same G H) (h : ArgL K ca G (hid H p) vs ss) (hp : H p = some (.ins (ca Cn) dx [])) (hg : G p = none) (hn : 1 + ss.length + n ≤ N.length) :
    Ok K ca ⟨G, hid H p⟩ G H (fun b => if b = p then some 0 else none) (L2.start N (.ref p :: vs)) (.nw p Cn [] :: (ss ++ List.replicate n .un)) := by
  have hl := h.length
  refine ⟨by simp [L2.start]; omega, e, Same.refl _, fun b o z => ?_, fun _ _ => rfl, fun b i z => ?_, fun i s q => ?_⟩
  · have z' : hid H p b = some o := z
    unfold hid at z'
    split at z'
    · cases z'
    · exact z'
  · split at z
    · rename_i hb
      subst hb
      exact ⟨hid_same, hg, by rw [hp]; exact fun y => by cases y⟩
    · cases z
  · cases i with
    | zero =>
      cases q
      exact ⟨start_get rfl, by simp, dx, [], hp, .nil⟩
    | succ i =>
      have q' : (ss ++ List.replicate n .un)[i]? = some s := by simpa using q
      by_cases hi : i < ss.length
      · rw [List.getElem?_append_left hi] at q'
        obtain ⟨v, h1, h2⟩ := h.get (H0 := hid H p) (fun _ _ z => z) (own := fun b => if b = p then some 0 else none) q'
        rw [start_get (show (V.ref p :: vs)[i + 1]? = some v by simpa using h1)]
        exact h2 (i + 1) H
      · rw [List.getElem?_append_right (by omega), List.getElem?_replicate] at q'
        split at q'
        · cases q'; trivial
        · cases q'
section
variable {P : Program} {w : World} {K : PySem.W.Frag} {mg : Str → Option Value} {base : Heap}
theorem fn_init {x qual : Str} {params : Arguments} {bd : List Stmt} {sc : Scope} {dvs : List V} {kws : List (Str × V)} {f : Addr} {fd : FuncData} {Ns ps : List Str} {k n : Nat} {ca : Str → Addr} {Cn : Str} {α β γ ρ : Type} {encA : α → List Sl} {R : ρ → RV} {Nx : Addr → α → β → List Sl} {L : α → γ → List Sl} {code : α → M (Out β γ ρ)} {Fl : β → List (Str × D)}
    (F : FunD K x qual params bd sc dvs kws f fd) (S : FnScope Ns ps sc) (hl : ∀ a, 1 + (encA a).length = ps.length) (hn : ps.length + n = Ns.length) (hN : ∀ p a b, (Nx p a b)[0]? = some (.nw p Cn (Fl b)))
    (hb : ∀ (cdv : Value) (A : Around) (outer : List Env) (s : Shared) (G H : Hp) (E : XK) (a : α) (p : Addr), CxD (cxOf (L2N.CX P w) P w K mg base Ns qual sc f cdv A outer s H E) (jn ca E G H p) k →
      DSs (cxOf (L2N.CX P w) P w K mg base Ns qual sc f cdv A outer s H E) (jn ca E G H p) (.nw p Cn [] :: (encA a ++ List.replicate n .un)) bd (Nx p a) (L a) R (code a)) :
    FnOk P w K mg base (L2N.CX P w) (k + 1) f fd ps (spN K ca Cn encA fun a => iniO Fl (code a)) := by
  obtain ⟨oc, od, dV, kV, doc, pm, an, cdv, ct, osl, rfl, lk, hcd, _, _⟩ := F.ex
  refine fn_of lk hcd S (fun vs H Q E ⟨a, p, dx, ws, G, e, _, _, _, d, _⟩ => by rw [e, List.length_cons, d.length, ← hl a]; omega) fun A outer s H vs Q E hr ⟨a, p, dx, ws, G, e, hp, hg, sg, d, r⟩ => ?_
  subst e
  have C : CxD (cxOf (L2N.CX P w) P w K mg base Ns qual sc f cdv A outer s H E) (jn ca E G H p) k :=
    ⟨rfl, L2N.takes_of rfl rfl rfl rfl, passes_of rfl, hr, S.nd⟩
  refine ⟨_, hb cdv A outer s G H E a p C, G, _, ok_startN sg d hp hg (by have := hl a; omega), ?_⟩
  have same : ∀ {G' H' : Hp} {own' : Addr → Option Nat} {σ' : L2.St} {S' : List Sl}, Ok K ca ⟨G, hid H p⟩ G' H' own' σ' S' → (∀ b, b ≠ p → H b ≠ none → H' b = H b) ∧ (∀ b, H b ≠ none → b ≠ p → G' b = G b) := fun {G' H' own' σ' S'} k' => by
    refine ⟨fun b hbp hbn => ?_, fun b hbn hbp => ?_⟩
    · cases q : H b with
      | none => exact absurd q hbn
      | some o => rw [k'.h0 b o (by show hid H p b = _; rw [hid_ne hbp]; exact q)]
    · exact k'.gn b (by show hid H p b ≠ none; rw [hid_ne hbp]; exact hbn)
  dsimp only at r
  cases hc : code a with
  | ok o =>
    rw [hc] at r
    cases o with
    | nx b =>
      intro σ' G' H' own' sg' ok'
      obtain ⟨h1, h2, dy, vs, h3, h4⟩ := ok'.sl 0 _ (hN p a b)
      obtain ⟨e1, e2⟩ := same ok'
      refine r G' H' vs dy sg' ok'.gh e1 (fun z hz => ?_) h3 h4
      by_cases hzp : z = p
      · subst hzp
        rw [hg]; exact (ok'.ow z 0 h2).2.1
      · exact e2 z hz hzp
    | rt q => exact r.elim
    | bk c => exact r.elim
    | ct c => exact r.elim
  | er x =>
    rw [hc] at r
    intro cls d σ' G' H' own' sg' ok' ra
    obtain ⟨e1, e2⟩ := same ok'
    exact r cls d G' H' sg' ok'.gh e1 (fun z h1 h2 => e2 z h2 h1) ra
  | no => rw [hc] at r; exact r.elim
end

/-! ### an object is made: C(e, .., k = v, ..) -/
section
variable {α β γ δ ρ κ : Type} {S : List Sl} {enc : α → D} {a b c e : Expr} {es : List Expr} {pos p kpos : Pos} {k j : Nat} {kws : List Keyword}
def DK (X : Cx) (J : Jx) (S : List Sl) (kws : List Keyword) (encs : β → List Sl) (n : M β) : Prop := PK X kws (tXr X J S encs n)
theorem pk_imp {kws : List Keyword} {t t' : TA} (h : PK X kws t) (i : ∀ σ H Q, t' σ H Q → t σ H Q) : PK X kws t' := ⟨fun ps pins s σ H Q I q => h.run ps pins s σ H Q I (i σ H Q q)⟩
theorem k_nil : DK X J S [] xN (.ok ()) := pk_imp pk_nil fun σ H Q ⟨G, own, ok, fin⟩ => fin [] G H (Grow.refl ok.gh) .nil
theorem k_cons {nm : Option Str} {encs : β → List Sl} {m : M α} {n : M β} (h : DE X J S a enc m) (h2 : DK X J S kws encs n) : DK X J S (⟨nm, a, kpos⟩ :: kws) (xC enc encs) (mb m fun x => mb n fun y => .ok (x, y)) :=
  pk_imp (pk_cons h h2) fun σ H Q ⟨G, own, ok, fin⟩ => E_bind FinX.wish ok fin fun x v G1 H1 g1 ok1 d r => X_bind FinX.wish ok1 r fun y vs G2 H2 g2 ok2 d2 r2 =>
    r2 _ G2 H2 (Grow.refl ok2.gh) (.cons (d.mono g2.g) d2)
theorem e_make {f : Addr} {fd : FuncData} {ps ks : List Str} {x Cn : Str} {n : Nat} {gV : List V → List V → List V} {encA : κ → List Sl} {code : κ → M ρ} {flds : ρ → List (Str × D)} {encs : α → List Sl} {enk : β → List Sl} {ma : M α} {mk : M β} {mkA : α → β → κ}
    (C : CxD X J k) (hj : j + 1 ≤ k) (hW : ∀ cls d σ τ H, J.W cls d σ H → J.W cls d τ H) (Mm : Mk X.K (J.ca Cn) f) (F : FnOk X.prog X.w X.K X.mg X.base (L2N.CX X.prog X.w) j f fd ps (spN X.K J.ca Cn encA fun a => mb (code a) fun r => .ok (flds r))) (hm : X.mg x = some (.ref (J.ca Cn))) (hb : ∃ g, KBn X.K fd ps (n + 1) ks g gV)
    (ha : DX X J S (e :: es) encs ma) (hk : DK X J S kws enk mk) (hn : ∀ z, (encs z).length = n) (hn2 : ∀ z, (enk z).length = ks.length)
    (hA : ∀ (G H : Hp) (v : V) (vs zs : List V) (z : α) (y : β), ArgL X.K J.ca G H vs (encs z) → ArgL X.K J.ca G H zs (enk y) → ∃ ws, gV (v :: vs) zs = v :: ws ∧ ArgL X.K J.ca G H ws (encA (mkA z y)))
    (hg : Gl X x := by rfl) (hall : (backToKw pos (keywordEach kws X.env)).all (·.1.isSome) = true := by rfl) (hks : (backToKw pos (keywordEach kws X.env)).filterMap (·.1) = ks := by rfl)
    (hdb : (x == ("__debug__" : Str)) = false := by decide) (he : starEach (e :: es) X.env = (false, eval e X.env) :: starEach es X.env := by rfl)
    (hpl : ((backTo pos (starEach (e :: es) X.env)).any (·.1) || (backToKw pos (keywordEach kws X.env)).any (·.1.isNone)) = false := by rfl) :
    DE X J S (.Call (.Name x p) (e :: es) kws pos) (fun r => .obj Cn (flds r)) (mb ma fun z => mb mk fun y => code (mkA z y)) := by
  obtain ⟨g, hb⟩ := hb
  refine ⟨fun pins s σ H Q I ⟨G, own, ok, fin⟩ => ?_⟩
  refine wpAny_Call_Name_kw (ld_glob I hg hm ?_ hdb)
  have ta := X_bind (X := X) (J := J) (f := fun z => mb mk fun y => code (mkA z y)) (Fin.wish (enc := fun r => D.obj Cn (flds r)) (Q := Q)) ok fin
    (P := fun vs H1 => ∃ z G1, OkX X J G1 H1 own σ S ∧ ArgL X.K J.ca G1 H1 vs (encs z) ∧ Fin X J (fun r => D.obj Cn (flds r)) (mb mk fun y => code (mkA z y)) σ G1 H1 Q)
    fun z vs G1 H1 g1 ok1 d r => ⟨z, G1, ok1, d, r⟩
  refine PySem.W.callWith_KW (h₀ := X.base) I.ok.mod.kin Mm.kp hall (thn (ha.run pos pins s σ H _ I ta) fun us s1 ⟨vs, H1, I1, r1, z, G1, ok1, d1, fin1⟩ => ?_) hpl he
  have tk := X_bind (X := X) (J := J) (f := fun y => code (mkA z y)) (Fin.wish (enc := fun r => D.obj Cn (flds r)) (Q := Q)) ok1 fin1
    (P := fun zs H2 => ∃ y G2, OkX X J G2 H2 own σ S ∧ Grow G1 H1 G2 H2 ∧ ArgL X.K J.ca G2 H2 zs (enk y) ∧ Fin X J (fun r => D.obj Cn (flds r)) (code (mkA z y)) σ G2 H2 Q)
    fun y zs G2 H2 g2 ok2 d r => ⟨y, G2, ok2, g2, d, r⟩
  refine thn (hk.run pos pins s1 σ H1 _ I1 tk) fun ws s2 ⟨zs, H2, I2, rz, y, G2, ok2, g2, d2, fin2⟩ => ⟨I2.kIn, ?_⟩
  rw [hks]
  have dv := d1.mono g2.g g2.h
  refine run_makeN (E := fun cls d H => J.W cls d σ H) Mm F (C.room.mono hj) hb (L2N.passes_call C.tk fun cls d τ H' h => hW cls d σ τ H' h) I2 r1 rz (by rw [dv.length, hn]) (by rw [d2.length, hn2]) fun a dx h1 h2 hne => ?_
  obtain ⟨ws', e1, e2⟩ := hA G2 H2 (.ref a) vs zs z y dv d2
  have sg2 : Same G2 (upd (upd H2 dx (.own a)) a (.ins (J.ca Cn) dx [])) := fun b o q => by
    have q' := ok2.gh b o q
    rw [upd_ne (ne_of_none q' h1), upd_ne (ne_of_none q' h2)]; exact q'
  have hG : G2 a = none := Same.free ok2.gh h1
  refine ⟨mkA z y, a, dx, ws', G2, e1, upd_same, hG, sg2, e2.mono (Same.refl _) (fun b o q => by
    have n1 : b ≠ a := fun z => by rw [z, h1] at q; cases q
    rw [hid_ne n1, upd_ne n1, upd_ne fun z => by rw [z, h2] at q; cases q]; exact q), ?_⟩
  have old : ∀ b, H2 b ≠ none → b ≠ a ∧ (upd (upd H2 dx (.own a)) a (.ins (J.ca Cn) dx [])) b = H2 b := fun b hbn => by
    have n1 : b ≠ a := fun z => hbn (z ▸ h1)
    have n2 : b ≠ dx := fun z => hbn (z ▸ h2)
    exact ⟨n1, by rw [upd_ne n1, upd_ne n2]⟩
  cases hc : code (mkA z y) with
  | no => rw [hc] at fin2; exact fin2.elim
  | er q =>
    rw [hc] at fin2
    simp only [hc, mb_er]
    intro cls d G' H' s1 s2 o1 o2 ra
    refine fin2 cls d G' H' ⟨s1, fun b o q => ?_, s2, fun b hbn => ?_⟩ ra
    · obtain ⟨n1, n2⟩ := old b (by rw [q]; exact fun z => by cases z)
      rw [o1 b n1 (by rw [n2, q]; exact fun z => by cases z), n2]; exact q
    · obtain ⟨n1, n2⟩ := old b hbn
      exact o2 b n1 (by rw [n2]; exact hbn)
  | ok r =>
    rw [hc] at fin2
    simp only [hc, mb_ok]
    intro G' H' gs dy s1 s2 o1 o2 ha' hf
    have hGa : G' a = none := by rw [o2 a (by rw [upd_same]; exact fun z => by cases z)]; exact hG
    refine ⟨trivial, fin2 _ (upd G' a (.ins (J.ca Cn) dy gs)) H' ⟨s1.trans (same_upd hGa), fun b o q => ?_, fun b o q => ?_, fun b hbn => ?_⟩ (.obj upd_same (hf.mono (same_upd hGa)))⟩
    · obtain ⟨n1, n2⟩ := old b (by rw [q]; exact fun z => by cases z)
      rw [o1 b n1 (by rw [n2, q]; exact fun z => by cases z), n2]; exact q
    · by_cases hb' : b = a
      · subst hb'; rw [upd_same] at q; cases q; exact ha'
      · rw [upd_ne hb'] at q; exact s2 b o q
    · obtain ⟨n1, n2⟩ := old b hbn
      rw [upd_ne n1]; exact o2 b (by rw [n2]; exact hbn)
end
end DL

namespace DL
open PySem PySem.Spec PyProof.Rows L2
variable {X : Cx} {J : Jx}
section
variable {α β γ δ ρ : Type} {S : List Sl} {enc : α → D} {enr : ρ → D} {a b c e o : Expr} {es : List Expr} {pos p apos : Pos} {k j : Nat} {f : Addr} {fd : FuncData} {ps : List Str}
/-- len by an own __len__, as it answers -/
def lenO (n : Int) : M Int := if 0 ≤ n ∧ n < 2 ^ 63 then .ok n else .no
/-- one argument, an object's own method's receiver -/
abbrev aO (e : α → D) : α → List Sl := fun z => [.fr (e z)]
/-- len(o) by the class's own __len__ -/
theorem e_lenO {m : M α} {Cn : Str} {fs : α → List (Str × D)} {code : α → M Int} (C : CxD X J k) (hj : j + 1 ≤ k) (hm : X.mg "len" = none) (cl : Cls X.K (J.ca Cn)) (hs : PySem.W.findIn X.K (.ref (J.ca Cn)) "__len__" = some (some (.ref f))) (hf : PySem.W.isFn X.K (.ref f) = true)
    (F : FnOk X.prog X.w X.K X.mg X.base (L2N.CX X.prog X.w) j f fd ["self"] (spE X.K J.ca (xC enc xN) eI fun a => code a.1)) (hb : Binds X.K fd ["self"] []) (hd : ∀ z, enc z = .obj Cn (fs z)) (hne : ∀ z y, code z ≠ .er y)
    (h : PA X [a] (tCons (tE X J S enc m) tNil)) (hg : Gl X "len" := by rfl)
    (he : starEach (a :: []) X.env = (false, eval a X.env) :: starEach [] X.env := by rfl) (hpl : (backTo pos (starEach [] X.env)).any (·.1) = false := by rfl) :
    DE X J S (.Call (.Name "len" p) [a] [] pos) eI (mb m fun z => mb (code z) lenO) := by
  have hc : CallR X (.builtin "len") (fun xs H Q => ∃ q dx gs, xs = [.ref q] ∧ H q = some (.ins (J.ca Cn) dx gs) ∧ spE X.K J.ca (xC enc xN) eI (fun a => code a.1) [.ref q] H (fun v H' => ∃ n : Int, v = .int n ∧ (0 ≤ n ∧ n < 2 ^ 63) ∧ Q (.int n) H') fun _ _ _ => False) := by
    intro pins s σ H xs us Q I r ⟨q, dx, gs, ex, hq, sp⟩
    subst ex
    obtain rfl := Vals.ref1 r
    obtain ⟨mA, om, _⟩ := ins_get I.hok hq
    obtain ⟨od, I1, _⟩ := om.look
    obtain ⟨mF, fr⟩ := I.fr
    refine PySem.W.len_K fr I.ok.mod.kin I1 hs hf ?_
    have hl : ([Value.ref q] ++ []).length = (["self"] : List Str).length := rfl
    refine wpAny_call (codeAny_mono (F.run X.A.in1 X.stack s H ⟨[.ref q], []⟩ [.ref q] [.ref q] _ (fun _ _ _ => False) ((C.room.mono hj).in1) I.env0.in1 (hb s [.ref q] I.kIn hl) (.cons rfl .nil) sp) fun res t z => ?_)
    cases res with
    | error er => exact (pass_no (hx := C.tk) pins σ H s er t I z)
    | ok fl =>
      cases fl with
      | ret u =>
        obtain ⟨v, H', I', rv, n, ev, hn, q2⟩ := I.after z
        subst ev
        obtain ⟨tk, rfl⟩ := rv
        exact ⟨hn, .int n, H', I'.tok _, ⟨_, rfl⟩, q2⟩
      | next => exact z.elim
      | brk => exact z.elim
      | cont => exact z.elim
  refine pe_imp (pe_callB hc hg hm PySem.boot_len h (by decide) (by decide) he hpl) fun σ H Q ⟨G, own, ok, fin⟩ => E_bind Fin.wish ok fin fun z v G1 H1 g1 ok1 d r => ?_
  have d' := d
  rw [hd z] at d
  cases d with
  | obj hq hF =>
    refine ⟨_, _, _, rfl, ok1.gh _ _ hq, (z, ()), G1, ok1.gh, .cons d' .nil, ?_⟩
    show spR X.K J.ca G1 H1 (mb (code z) _) _ _
    cases hcz : code z with
    | no => rw [hcz] at r; exact r.elim
    | er y => exact absurd hcz (hne z y)
    | ok n =>
      rw [hcz] at r
      intro v G' H' g dv
      cases dv
      by_cases hn : 0 ≤ n ∧ n < 2 ^ 63
      · have r' : Fin X J eI (if 0 ≤ n ∧ n < 2 ^ 63 then M.ok n else .no) σ G1 H1 Q := r
        rw [if_pos hn] at r'
        exact ⟨n, rfl, hn, r' _ G' H' g (.int n)⟩
      · have r' : Fin X J eI (if 0 ≤ n ∧ n < 2 ^ 63 then M.ok n else .no) σ G1 H1 Q := r
        rw [if_neg hn] at r'
        exact r'.elim
/-- o.m(e, ..) -/
theorem e_meth {pl : Sem Bool} {β : Type} {m : M α} {n : M β} {Cn : Str} {ml : Str} {fs : α → List (Str × D)} {encs : β → List Sl} {code : α × β → M ρ} (C : CxD X J k) (hj : j ≤ k) (he : DE X J S o enc m) (cl : Cls X.K (J.ca Cn)) (hm : Meth X.K (J.ca Cn) ml f)
    (F : FnOk X.prog X.w X.K X.mg X.base (L2N.CX X.prog X.w) j f fd ps (spE X.K J.ca (xC enc encs) enr code)) (hb : Binds X.K fd ps []) (hd : ∀ z, enc z = .obj Cn (fs z) ∧ (fs z).lookup ml = none) (ha : DX X J S (e :: es) encs n)
    (hnl : ∀ {vs : List (Str × V)} {ds : List (Str × D)} {H : Hp}, DenF X.K J.ca H vs ds → ds.lookup ml = none → vs.lookup ml = none)
    (hst : starEach (e :: es) X.env = (false, eval e X.env) :: starEach es X.env := by rfl) (hpl : (backTo pos (starEach es X.env)).any (·.1) = false := by rfl)
    (ht : eval (.Call (.Attribute o ml apos) (e :: es) [] pos) X.env = (do
      let ov ← eval o X.env
      standAt apos.atName
      let (g, first) ← holding [ov] (getMethod ov ml pl)
      callWith pos g first (backTo pos (starEach (e :: es) X.env)) (backToKw pos (keywordEach [] X.env))) := by rfl) :
    DE X J S (.Call (.Attribute o ml apos) (e :: es) [] pos) enr (mb m fun z => mb n fun y => code (z, y)) := by
  refine ⟨fun pins s σ H Q I ⟨G, own, ok, fin⟩ => ?_⟩
  have t1 := E_bind (X := X) (J := J) (enc := enc) (f := fun z => mb n fun y => code (z, y)) (Fin.wish (enc := enr) (Q := Q)) ok fin
    (P := fun v H1 => ∃ z G1, OkX X J G1 H1 own σ S ∧ Den X.K J.ca G1 v (enc z) ∧ Fin X J enr (mb n fun y => code (z, y)) σ G1 H1 Q)
    fun z v G1 H1 g1 ok1 d r => ⟨z, G1, ok1, d, r⟩
  refine PySem.W.methodCall_KW (pl := pl) (thn (he.run pins s σ H _ I t1) fun u s1 ⟨x, H1, I1, rx, z, G1, ok1, d, r⟩ => ?_) ht
  have d' := d
  rw [(hd z).1] at d
  cases d with
  | obj hq hF =>
    obtain rfl : u = _ := rx
    refine getmeth_ok I1 (ok1.gh _ _ hq) cl hm (hnl hF (hd z).2) ?_
    have t2 := X_bind (X := X) (J := J) (f := fun y => code (z, y)) (Fin.wish (enc := enr) (Q := Q)) ok1 r
      (P := fun vs H2 => ∃ y G2, OkX X J G2 H2 own σ S ∧ Grow G1 H1 G2 H2 ∧ ArgL X.K J.ca G2 H2 vs (encs y) ∧ Fin X J enr (code (z, y)) σ G2 H2 Q)
      fun y vs G2 H2 g2 ok2 d r => ⟨y, G2, ok2, g2, d, r⟩
    refine PySem.W.callWith_K (first := [.ref _]) (h₀ := X.base) I.ok.mod.kin hm.kp (thn (ha.run pos pins s1 σ H1 _ I1 t2) fun us s2 ⟨vs, H2, I2, rv, y, G2, ok2, g2, d2, r2⟩ => ⟨I2.kIn, ?_⟩) hst hpl
    refine run_fnSD (us := .ref _ :: us) (vs := .ref _ :: vs) (E := fun σ => WE J.W σ) (F.mono hj) C.room hb .nil (L2N.passAt C.tk σ) I2 (.cons rfl rv) ?_
    rw [List.append_nil]
    refine ⟨(z, y), G2, ok2.gh, .cons (d'.mono g2.g) d2, ?_⟩
    show spR X.K J.ca G2 H2 (mb (code (z, y)) _) _ _
    cases hcz : code (z, y) with
    | no => rw [hcz] at r2; exact r2.elim
    | er q => rw [hcz] at r2; exact fun cls dd G' H' g ra => r2 cls dd G' H' g ra
    | ok n => rw [hcz] at r2; exact fun v G' H' g dv => r2 v G' H' g dv
/-- o.m() -/
theorem e_meth0 {pl : Sem Bool} {m : M α} {Cn : Str} {ml : Str} {fs : α → List (Str × D)} {code : α → M ρ} (C : CxD X J k) (hj : j ≤ k) (he : DE X J S o enc m) (cl : Cls X.K (J.ca Cn)) (hm : Meth X.K (J.ca Cn) ml f)
    (F : FnOk X.prog X.w X.K X.mg X.base (L2N.CX X.prog X.w) j f fd ps (spE X.K J.ca (xC enc xN) enr fun a => code a.1)) (hb : Binds X.K fd ps []) (hd : ∀ z, enc z = .obj Cn (fs z) ∧ (fs z).lookup ml = none)
    (hnl : ∀ {vs : List (Str × V)} {ds : List (Str × D)} {H : Hp}, DenF X.K J.ca H vs ds → ds.lookup ml = none → vs.lookup ml = none)
    (ht : eval (.Call (.Attribute o ml apos) [] [] pos) X.env = (do
      let ov ← eval o X.env
      standAt apos.atName
      let (g, first) ← holding [ov] (getMethod ov ml pl)
      callWith pos g first (backTo pos (starEach [] X.env)) (backToKw pos (keywordEach [] X.env))) := by rfl) :
    DE X J S (.Call (.Attribute o ml apos) [] [] pos) enr (mb m code) := by
  refine ⟨fun pins s σ H Q I ⟨G, own, ok, fin⟩ => ?_⟩
  have t1 := E_bind (X := X) (J := J) (enc := enc) (f := code) (Fin.wish (enc := enr) (Q := Q)) ok fin
    (P := fun v H1 => ∃ z G1, OkX X J G1 H1 own σ S ∧ Den X.K J.ca G1 v (enc z) ∧ Fin X J enr (code z) σ G1 H1 Q)
    fun z v G1 H1 g1 ok1 d r => ⟨z, G1, ok1, d, r⟩
  refine PySem.W.methodCall_KW (pl := pl) (thn (he.run pins s σ H _ I t1) fun u s1 ⟨x, H1, I1, rx, z, G1, ok1, d, r⟩ => ?_) ht
  have d' := d
  rw [(hd z).1] at d
  cases d with
  | obj hq hF =>
    obtain rfl : u = _ := rx
    refine getmeth_ok I1 (ok1.gh _ _ hq) cl hm (hnl hF (hd z).2) ?_
    refine PySem.W.callWith_K0 (first := [.ref _]) I1.kIn hm.kp ?_
    refine run_fnSD (us := [.ref _]) (vs := [.ref _]) (E := fun σ => WE J.W σ) (F.mono hj) C.room hb .nil (L2N.passAt C.tk σ) I1 (.cons rfl .nil) ?_
    rw [List.append_nil]
    refine ⟨(z, ()), G1, ok1.gh, .cons d' .nil, ?_⟩
    show spR X.K J.ca G1 H1 (mb (code z) _) _ _
    cases hcz : code z with
    | no => rw [hcz] at r; exact r.elim
    | er q => rw [hcz] at r; exact fun cls dd G' H' g ra => r cls dd G' H' g ra
    | ok n => rw [hcz] at r; exact fun v G' H' g dv => r v G' H' g dv
theorem denF_none {K : PySem.W.Frag} {ca : Str → Addr} {H : Hp} {ml : Str} : ∀ {vs : List (Str × V)} {ds : List (Str × D)}, DenF K ca H vs ds → ds.lookup ml = none → vs.lookup ml = none
  | _, _, .nil, _ => rfl
  | _, _, .cons (f := g) h t, e => by
    simp only [List.lookup] at e ⊢
    cases q : (ml == g) with
    | true => rw [q] at e; cases e
    | false => rw [q] at e; exact denF_none t e
end
/-- what isinstance asks of a class of one's own -/
structure IsC (K : PySem.W.Frag) (C : Addr) : Prop where
  cl : Cls K C
  cc : PySem.W.findIn K (.ref C) "__class__" = some (some (.builtin "object.__class__"))
  sp : PySem.W.specialIn K (.builtin "object.__class__") "__get__" = some (some (.builtin "getset_descriptor.__get__"))
  tk : PySem.W.takesIn K (.builtin "object.__class__") = some true
  mr : PySem.W.mroIn K C (.type "object") = some true
theorem ty_obj {α : Type} {enc : α → D} {Cn : Str} {fs : α → List (Str × D)} {u : Value} {r : Bool} (I : IsC X.K (J.ca Cn)) (hd : ∀ z, enc z = .obj Cn (fs z)) (h : PySem.W.kitOne X.K (.ref (J.ca Cn)) u = some r) :
    ∀ (z : α) v G H own, Same G H → DenB X J G H own v (enc z) → ∃ t', TyX X.K H v t' ∧ PySem.W.kitOne X.K t' u = some ((fun _ => r) z) :=
  fun z v G H own sg d => by
    have d' := d.den (fun ds => by rw [hd z]; exact fun q => by cases q)
    rw [hd z] at d'
    cases d' with
    | obj hq hF => exact ⟨_, .base (.ins (sg _ _ hq) I.cl I.cc I.sp I.tk I.mr), h⟩
end DL

namespace DL
open PySem PySem.Spec PyProof.Rows L2
variable {X : Cx} {J : Jx}
section
variable {α β β' γ δ ρ : Type} {S S' : List Sl} {N : β → List Sl} {N' : β' → List Sl} {L : γ → List Sl} {R : ρ → RV} {enc : α → D} {a b c e : Expr} {es : List Expr} {pos p : Pos} {k j : Nat} {rest body : List Stmt}
/-! ### the generator's helpers -/
theorem ss_eq {n n' : M (Out β γ ρ)} (h : DSs X J S body N L R n) (e : n = n') : DSs X J S body N L R n' := e ▸ h
theorem ss_no : DSs X J S body N L R .no := ⟨fun pins s σ H D I ⟨G, own, ok, fin⟩ => fin.elim⟩
theorem s1_no {st : Stmt} : DS X J S st N L R .no := ⟨fun pins s σ H D I ⟨G, own, ok, fin⟩ => fin.elim⟩
theorem wk_n {S : List Sl} : Wk S [] := Wk.nil
theorem wk_u {s : Sl} (h : Wk S S') : Wk (s :: S) (.un :: S') := ⟨Nat.succ_le_succ h.1, fun i t e => by
  cases i with
  | zero => cases e; exact .inl rfl
  | succ i => exact (h.2 i t (by simpa using e)).imp id fun q => by simpa using q⟩
theorem wk_e {s : Sl} (h : Wk S S') : Wk (s :: S) (s :: S') := ⟨Nat.succ_le_succ h.1, fun i t e => by
  cases i with
  | zero => exact .inr e
  | succ i => exact (h.2 i t (by simpa using e)).imp id fun q => by simpa using q⟩
theorem e_bl {k : Bool} {j : Nat} : DE X J S (.Constant (.bool k) j pos) eB (.ok k) := pe_imp pe_bl fun σ H Q ⟨G, own, ok, fin⟩ => fin _ G H (Grow.refl ok.gh) (.bl k)
theorem e_str {k : Str} {j : Nat} : DE X J S (.Constant (.str k) j pos) eS (.ok k) := pe_imp pe_str fun σ H Q ⟨G, own, ok, fin⟩ => fin _ G H (Grow.refl ok.gh) (.str k)
/-- pure parts -/
theorem w_andP {m n : M Bool} {q : Bool} (h : DT X J S a m) (h2 : DW X J S (.BoolOp .And (b :: es) pos) n) (hn : n = .ok q) : DW X J S (.BoolOp .And (a :: b :: es) pos) (mb m fun x => .ok (x && q)) := by
  have z := w_and h h2
  subst hn
  rwa [show (fun x : Bool => if x = true then M.ok q else .ok false) = fun x => .ok (x && q) by funext x; cases x <;> rfl] at z
theorem w_orP {m n : M Bool} {q : Bool} (h : DT X J S a m) (h2 : DW X J S (.BoolOp .Or (b :: es) pos) n) (hn : n = .ok q) : DW X J S (.BoolOp .Or (a :: b :: es) pos) (mb m fun x => .ok (x || q)) := by
  have z := w_or h h2
  subst hn
  rwa [show (fun x : Bool => if x = true then M.ok true else .ok q) = fun x => .ok (x || q) by funext x; cases x <;> rfl] at z
theorem e_andP {m n : M Bool} {q : Bool} (h : DE X J S a eB m) (h2 : DE X J S (.BoolOp .And (b :: es) pos) eB n) (hn : n = .ok q) : DE X J S (.BoolOp .And (a :: b :: es) pos) eB (mb m fun x => .ok (x && q)) := by
  have z := e_and h h2
  subst hn
  rwa [show (fun x : Bool => if x = true then M.ok q else .ok false) = fun x => .ok (x && q) by funext x; cases x <;> rfl] at z
theorem e_orP {m n : M Bool} {q : Bool} (h : DE X J S a eB m) (h2 : DE X J S (.BoolOp .Or (b :: es) pos) eB n) (hn : n = .ok q) : DE X J S (.BoolOp .Or (a :: b :: es) pos) eB (mb m fun x => .ok (x || q)) := by
  have z := e_or h h2
  subst hn
  rwa [show (fun x : Bool => if x = true then M.ok true else .ok q) = fun x => .ok (x || q) by funext x; cases x <;> rfl] at z
theorem e_ifP {mc : M Bool} {m n : M α} {x y : α} (hc : DT X J S c mc) (ha : DE X J S a enc m) (hb : DE X J S b enc n) (h1 : m = .ok x) (h2 : n = .ok y) : DE X J S (.IfExp c a b pos) enc (mb mc fun k => .ok (if k = true then x else y)) := by
  have z := e_ifE (pos := pos) hc ha hb
  subst h1 h2
  rwa [show (fun k : Bool => if k = true then M.ok x else .ok y) = fun k => .ok (if k = true then x else y) by funext k; cases k <;> rfl] at z
/-- both branches only store: the slots are joined -/
theorem ss_ifP {c : Expr} {A Bd : List Stmt} {mc : M Bool} {ma mb' : M (Out β γ ρ)} {x y : β} {f : β → M (Out β' γ ρ)} (N : β → List Sl) (hc : DT X J S c mc) (ha : DSs X J S A N L R ma) (hb : DSs X J S Bd N L R mb') (h1 : ma = .ok (.nx x)) (h2 : mb' = .ok (.nx y)) (hr : ∀ b, DSs X J (N b) rest N' L R (f b)) (hw : Wk S J.Sx) :
    DSs X J S (.If c A Bd pos :: rest) N' L R (mb mc fun k => f (if k = true then x else y)) := by
  have z := ss_if (pos := pos) hc ha hb hr hw
  subst h1 h2
  rwa [show (fun k : Bool => sq (if k = true then (M.ok (.nx x) : M (Out β γ ρ)) else .ok (.nx y)) f) = fun k => f (if k = true then x else y) by funext k; cases k <;> rfl] at z
theorem c_isF (hn : ∀ x, enc x ≠ .non) : CmpD X J .Is enc eU fun (_ : α) (_ : Unit) => false := ⟨_, op_isN, fun x y v u G H own Q _ d1 d2 q => by
  have hu : u = .non := by
    rcases d2 with d | ⟨_, _, _, _, h, _⟩
    · cases d; rfl
    · cases h
  refine ⟨hu, ?_⟩
  rw [non_of d1, show isNon (enc x) = false by
    have h := hn x
    cases q : enc x <;> first | rfl | exact absurd q h]
  exact q⟩
/-- a tuple of like items -/
theorem e_tupH {encs : β → List D} {n : M β} {g : β → List α} {kk : Nat} (h : DA X J S es encs n) (hg : ∀ z, encs z = (g z).map enc) (hl : ∀ z, (g z).length ≤ sizeLine) : DE X J S (.Tuple es kk pos) (eT enc) (mb n fun z => .ok (g z)) :=
  pe_imp (pe_tup h) fun σ H Q ⟨G, own, ok, fin⟩ => A_bind Fin.wish ok fin fun z vs G1 H1 g1 ok1 d r => by
    rw [hg z] at d
    have e := d.length
    rw [List.length_map] at e
    exact ⟨by rw [e]; exact hl z, fun q hq => r _ _ _ (Grow.alloc ok1.gh hq) (.tup (.of upd_same) (d.mono (same_upd (Same.free ok1.gh hq))))⟩
theorem small_line {n : Nat} (h : n ≤ 1000) : n ≤ sizeLine := Nat.le_trans h (by decide)
/-- the try, then the rest -/
theorem ss_tryC {m : M (Out β γ ρ)} {f : β → M (Out β' γ ρ)} {st : Stmt} (h : DS X J S st N L R m) (hr : ∀ b, DSs X J (N b) rest N' L R (f b)) : DSs X J S (st :: rest) N' L R (sq m f) := ss_cons h hr
end

/-! ### standings -/
structure BV where
  strengths : List Int
  lengths : List Int
  ring : Bool
  deriving DecidableEq
def fB (b : BV) : List (Str × D) := [("strengths", eT eI b.strengths), ("lengths", eT eI b.lengths), ("ring", eB b.ring)]
abbrev eBeads : BV → D := fun b => .obj "Beads" (fB b)
theorem fB_s (b : BV) : eBeads b = .obj "Beads" (fB b) ∧ (fB b).lookup ("strengths" : Str) = some (eT eI b.strengths) := ⟨rfl, by rfl⟩
theorem fB_l (b : BV) : eBeads b = .obj "Beads" (fB b) ∧ (fB b).lookup ("lengths" : Str) = some (eT eI b.lengths) := ⟨rfl, by rfl⟩
theorem fB_r (b : BV) : eBeads b = .obj "Beads" (fB b) ∧ (fB b).lookup ("ring" : Str) = some (eB b.ring) := ⟨rfl, by rfl⟩
theorem fB_no {f : Str} (h : (fB ⟨[], [], true⟩).lookup f = none) (b : BV) : eBeads b = .obj "Beads" (fB b) ∧ (fB b).lookup f = none := by
  refine ⟨rfl, ?_⟩
  simp only [fB, List.lookup] at h ⊢
  revert h
  cases (f == ("strengths" : Str)) <;> cases (f == ("lengths" : Str)) <;> cases (f == ("ring" : Str)) <;> simp
end DL

namespace DL
open PySem PySem.Spec PyProof.Rows L2
variable {X : Cx} {J : Jx}
section
variable {α β β' γ δ ρ : Type} {S S' : List Sl} {N : β → List Sl} {N' : β' → List Sl} {L : γ → List Sl} {R : ρ → RV} {enc : α → D} {enb : β → D} {a b c e : Expr} {es : List Expr} {pos p : Pos} {k j : Nat} {rest body : List Stmt}
/-! ### displays of a written length, unlike items -/
/-- a list, frozen at once -/
theorem e_lstG {encs : β → List D} {n : M β} {g : β → α} (h : DA X J S es encs n) (hg : ∀ z, enc (g z) = .lst (encs z)) (hl : ∀ z, (encs z).length ≤ sizeLine) : DE X J S (.List es pos) enc (mb n fun z => .ok (g z)) :=
  pe_imp (pe_lst h) fun σ H Q ⟨G, own, ok, fin⟩ => A_bind Fin.wish ok fin fun z vs G1 H1 g1 ok1 d r => by
    refine ⟨by rw [d.length]; exact hl z, fun q hq => r _ _ _ (Grow.alloc ok1.gh hq) ?_⟩
    rw [hg z]
    exact .lst upd_same (d.mono (same_upd (Same.free ok1.gh hq)))
theorem e_tupG {encs : β → List D} {n : M β} {g : β → α} {kk : Nat} (h : DA X J S es encs n) (hg : ∀ z, enc (g z) = .tup (encs z)) (hl : ∀ z, (encs z).length ≤ sizeLine) : DE X J S (.Tuple es kk pos) enc (mb n fun z => .ok (g z)) :=
  pe_imp (pe_tup h) fun σ H Q ⟨G, own, ok, fin⟩ => A_bind Fin.wish ok fin fun z vs G1 H1 g1 ok1 d r => by
    refine ⟨by rw [d.length]; exact hl z, fun q hq => r _ _ _ (Grow.alloc ok1.gh hq) ?_⟩
    rw [hg z]
    exact .tup (.of upd_same) (d.mono (same_upd (Same.free ok1.gh hq)))
/-- an item of a list of a written length, at a written place -/
theorem e_ixH {m : M α} {g : α → β} {ds : α → List D} (jj : Nat) {kk : Nat} {pk : Pos} (ha : DE X J S a enc m) (hd : ∀ x, enc x = .lst (ds x) ∧ (ds x)[jj]? = some (enb (g x))) : DE X J S (.Subscript a (.Constant (.int (jj : Int)) kk pk) pos) enb (mb m fun x => .ok (g x)) :=
  pe_imp (pe_ix ix_list ha pe_int (by intro _ _; rfl)) fun σ H Q ⟨G, own, ok, fin⟩ => E_bind Fin.wish ok fin fun x v G1 H1 g1 ok1 d r => by
    rw [(hd x).1] at d
    obtain ⟨p, vs, rfl, h1, h2⟩ := Den.lst' (X := X) d
    obtain ⟨w, e1, e2⟩ := h2.get (hd x).2
    exact ⟨p, vs, jj, w, rfl, rfl, SqL.of (ok1.gh _ _ h1), atI_nat e1, r w G1 H1 (Grow.refl ok1.gh) e2⟩
end
/-! ### named kinds of written lengths -/
section
variable {α β γ δ : Type}
def eP2 (e : α → D) (f : β → D) : α × β → D := fun p => .tup [e p.1, f p.2]
def eP3 (e : α → D) (f : β → D) (g : γ → D) : α × β × γ → D := fun p => .tup [e p.1, f p.2.1, g p.2.2]
def eP4 (e : α → D) (f : β → D) (g : γ → D) (h : δ → D) : α × β × γ × δ → D := fun p => .tup [e p.1, f p.2.1, g p.2.2.1, h p.2.2.2]
def eH2 (e : α → D) (f : β → D) : α × β → D := fun p => .lst [e p.1, f p.2]
def eH3 (e : α → D) (f : β → D) (g : γ → D) : α × β × γ → D := fun p => .lst [e p.1, f p.2.1, g p.2.2]
def eH4 (e : α → D) (f : β → D) (g : γ → D) (h : δ → D) : α × β × γ × δ → D := fun p => .lst [e p.1, f p.2.1, g p.2.2.1, h p.2.2.2]
end
section
variable {α β γ δ : Type} {S : List Sl} {enc : α → D} {enb : β → D} {a b c e : Expr} {es : List Expr} {pos p : Pos} {k j : Nat}
/-! ### coercions -/
theorem e_conv {m : M α} (f : α → β) (h : DE X J S a enc m) (hf : ∀ x, enc x = enb (f x)) : DE X J S a enb (mb m fun x => .ok (f x)) := e_enc h (by
  cases m with
  | ok y => exact ⟨fun z hz => by cases hz; exact ⟨y, rfl, hf y⟩, fun x hx => by cases hx⟩
  | er x => exact ⟨fun z hz => (by cases hz), fun y hy => (by cases hy; rfl)⟩
  | no => exact ⟨fun z hz => (by cases hz), fun y hy => (by cases hy)⟩)
theorem e_some {m : M α} (h : DE X J S a enc m) : DE X J S a (eO enc) (mb m fun x => .ok (some x)) := e_conv some h fun _ => rfl
theorem e_none {m : M Unit} (h : DE X J S a eU m) : DE X J S a (eO enc) (mb m fun _ => .ok none) := e_conv (fun _ => none) h fun _ => rfl
theorem e_pl2 {m : M (α × α)} (h : DE X J S a (eP2 enc enc) m) : DE X J S a (eT enc) (mb m fun x => .ok [x.1, x.2]) := e_conv (fun x => [x.1, x.2]) h fun _ => rfl
/-! ### optional ints -/
def vO : Option Int → V
  | none => .non
  | some i => .int i
theorem DenB.oint {G H : Hp} {own : Addr → Option Nat} {v : V} {i : Option Int} (d : DenB X J G H own v (eO eI i)) : v = vO i := by
  rcases d with d | ⟨_, _, _, _, h, _⟩
  · cases i <;> cases d <;> rfl
  · cases i <;> cases h
theorem dec_oint (x y : Option Int) : decide (vO x = vO y) = decide (x = y) := by
  cases x <;> cases y <;> simp [vO]
theorem c_eqO : CmpD X J .Eq (eO eI) (eO eI) fun i j => decide (i = j) := ⟨_, op_eq, fun x y v u G H own Q _ d1 d2 q => by
  rw [d1.oint, d2.oint]
  refine ⟨?_, ?_⟩
  · cases x <;> cases y <;> rfl
  · rwa [dec_oint]⟩
theorem c_neO : CmpD X J .NotEq (eO eI) (eO eI) fun i j => !decide (i = j) := ⟨_, op_ne, fun x y v u G H own Q _ d1 d2 q => by
  rw [d1.oint, d2.oint]
  refine ⟨?_, ?_⟩
  · cases x <;> cases y <;> rfl
  · rwa [dec_oint]⟩
theorem ty_oint {T : String} {r r0 : Bool} (h : kitB "int" T = some r) (h0 : kitB "NoneType" T = some r0) : ∀ (z : Option Int) v G H own, Same G H → DenB X J G H own v (eO eI z) → ∃ t', TyX X.K H v t' ∧ PySem.W.kitOne X.K t' (.type T) = some ((fun z => if z.isSome = true then r else r0) z) :=
  fun z v G H own sg d => by
    rw [d.oint]
    cases z with
    | none => exact ⟨_, .base .non, kit_ty h0⟩
    | some i => exact ⟨_, .base (.int i), kit_ty h⟩
theorem pd_P2 {pd : α → PyData} {n : Nat} {pe : β → PyData} {m : Nat} (h : PdE enc pd n) (h' : PdE enb pe m) : PdE (eP2 enc enb) (fun p => .tuple [pd p.1, pe p.2]) (max n m + 1) := by
  refine ⟨fun sg d => ?_, fun x => ?_, fun x => ?_, fun x y => ?_⟩
  · cases d with
    | tup q t =>
      cases t with
      | cons t1 t =>
        cases t with
        | cons t2 t => cases t; exact .tup (same_seqT sg q) (.cons (h.dp sg t1) (.cons (h'.dp sg t2) .nil))
  · show (PyData.canLayAll0 [pd x.1, pe x.2]) = true
    rw [PyData.canLayAll0, PyData.canLayAll0, h.lay, h'.lay]; rfl
  · simp only [PyData.depth, PyData.depthAll]
    have h1 := h.dep x.1
    have h2 := h'.dep x.2
    omega
  · rw [PyData.eqv, PyData.eqvAll, PyData.eqvAll, PyData.eqvAll, Bool.and_true, Bool.and_eq_true, h.eq, h'.eq]
    exact (Prod.ext_iff).symm
theorem pd_H2 {pd : α → PyData} {n : Nat} {pe : β → PyData} {m : Nat} (h : PdE enc pd n) (h' : PdE enb pe m) : PdE (eH2 enc enb) (fun p => .list [pd p.1, pe p.2]) (max n m + 1) := by
  refine ⟨fun sg d => ?_, fun x => ?_, fun x => ?_, fun x y => ?_⟩
  · cases d with
    | lst q t =>
      cases t with
      | cons t1 t =>
        cases t with
        | cons t2 t => cases t; exact .lst (SqL.of (sg _ _ q)) (.cons (h.dp sg t1) (.cons (h'.dp sg t2) .nil))
  · show (PyData.canLayAll0 [pd x.1, pe x.2]) = true
    rw [PyData.canLayAll0, PyData.canLayAll0, h.lay, h'.lay]; rfl
  · simp only [PyData.depth, PyData.depthAll]
    have h1 := h.dep x.1
    have h2 := h'.dep x.2
    omega
  · rw [PyData.eqv, PyData.eqvAll, PyData.eqvAll, PyData.eqvAll, Bool.and_true, Bool.and_eq_true, h.eq, h'.eq]
    exact (Prod.ext_iff).symm
end
/-! ### the law's end -/
def spLaw (K : PySem.W.Frag) : Sp := fun vs H Q _ => ∃ (a : Addr) (ns : List Int), vs = [.ref a] ∧ SqL K H a (ns.map V.int) ∧ ns.length ≤ 63 ∧ ∀ H', Q (.bl true) H'
theorem law_end {P : Program} {w : World} {K : PySem.W.Frag} {mg : Str → Option Value} {base : Heap} {CX : CXT} {k : Nat} {f : Addr} {fd : FuncData} {ps : List Str} {ca : Str → Addr} {g : List Int → M Bool}
    (F : FnOk P w K mg base CX k f fd ps (spE K ca (xC eScr xN) eB fun a => g a.1)) (h : ∀ ns : List Int, ns.length ≤ 63 → g ns = .ok true) : FnOk P w K mg base CX k f fd ps (spLaw K) :=
  F.imp fun vs H Q E ⟨a, ns, e, hs, hl, q⟩ => by
    subst e
    refine ⟨(ns, ()), H, Same.refl _, .cons (.scr hs (DenL.of_ints ns)) .nil, ?_⟩
    show spR K ca H H (mb (g ns) _) Q E
    rw [h ns hl]
    exact fun v G' H' _ d => by cases d; exact q H'
end DL

namespace DL
open PySem PySem.Spec PyProof.Rows L2
variable {X : Cx} {J : Jx}
section
variable {α β β' γ δ ρ : Type} {S S' : List Sl} {N : β → List Sl} {N' : β' → List Sl} {L : γ → List Sl} {R : ρ → RV} {enc : α → D} {enb : β → D} {a b c e : Expr} {es : List Expr} {pos p : Pos} {k j : Nat} {rest body : List Stmt}
/-! ### tests whose answer is known -/
theorem ss_ifLastF {c : Expr} {a b : List Stmt} {mb' : M (Out β γ ρ)} (hc : DT X J S c (.ok false)) (hb : DSs X J S b N L R mb') (hw : Wk S J.Sx) : DSs X J S [.If c a b pos] N L R mb' := ss_ifL (pos := pos) hc ss_no hb hw
theorem ss_ifLastT {c : Expr} {a b : List Stmt} {ma : M (Out β γ ρ)} (hc : DT X J S c (.ok true)) (ha : DSs X J S a N L R ma) (hw : Wk S J.Sx) : DSs X J S [.If c a b pos] N L R ma := ss_ifL (pos := pos) hc ha ss_no hw
theorem ss_ifJF {c : Expr} {a b : List Stmt} {mb' : M (Out β γ ρ)} {f : β → M (Out β' γ ρ)} (hc : DT X J S c (.ok false)) (hb : DSs X J S b N L R mb') (hr : ∀ b, DSs X J (N b) rest N' L R (f b)) (hw : Wk S J.Sx) : DSs X J S (.If c a b pos :: rest) N' L R (sq mb' f) := ss_if (pos := pos) hc ss_no hb hr hw
theorem ss_ifJT {c : Expr} {a b : List Stmt} {ma : M (Out β γ ρ)} {f : β → M (Out β' γ ρ)} (hc : DT X J S c (.ok true)) (ha : DSs X J S a N L R ma) (hr : ∀ b, DSs X J (N b) rest N' L R (f b)) (hw : Wk S J.Sx) : DSs X J S (.If c a b pos :: rest) N' L R (sq ma f) := ss_if (pos := pos) hc ha ss_no hr hw
theorem c_notF (hn : ∀ x, enc x ≠ .non) : CmpD X J .IsNot enc eU fun (_ : α) (_ : Unit) => true := ⟨_, op_notN, fun x y v u G H own Q _ d1 d2 q => by
  have hu : u = .non := by
    rcases d2 with d | ⟨_, _, _, _, h, _⟩
    · cases d; rfl
    · cases h
  refine ⟨hu, ?_⟩
  rw [non_of d1, show isNon (enc x) = false by
    have h := hn x
    cases q : enc x <;> first | rfl | exact absurd q h]
  exact q⟩
end
/-! ### the codes, made plain -/
theorem mbk {α β : Type} (x : α) (f : α → M β) : mb (.ok x) f = f x := Eq.trans (mb_ok x f) (Eq.symm (Eq.refl (f x)))
theorem mba {α β γ : Type} (m : M α) (f : α → M β) (g : β → M γ) : mb (mb m f) g = mb m fun x => mb (f x) g := mb_assoc m f g
theorem sqk {β β' γ ρ : Type} (b : β) (f : β → M (Out β' γ ρ)) : sq (.ok (.nx b)) f = f b := Eq.trans (sq_nx b f) (Eq.symm (Eq.refl (f b)))
theorem sqa {α β β' γ ρ : Type} (m : M α) (g : α → M (Out β γ ρ)) (f : β → M (Out β' γ ρ)) : sq (mb m g) f = mb m fun x => sq (g x) f := sq_mb m g f
/-! ### defs -/
theorem fnV_er' {β γ ρ : Type} {d : M ρ} (hd : ∀ y, d ≠ .er y) {n : M (Out β γ ρ)} {y : Ex} (h : fnV d n = .er y) : n = .er y := by
  cases n with
  | ok o =>
    cases o with
    | nx b => exact absurd h (hd y)
    | rt r => cases h
    | bk c => cases h
    | ct c => cases h
  | er x => cases h; rfl
  | no => cases h
theorem fn_EH {α β γ ρ : Type} {enr : ρ → D} {k : Nat} {f : Addr} {fd : FuncData} {ps : List Str} {encs : α → List Sl} {P : Program} {w : World} {K : PySem.W.Frag} {mg : Str → Option Value} {base : Heap} {ca : Str → Addr} {code : α → M (Out β γ ρ)} {d : M ρ} (h : L2H.FnH P w K mg base (L2N.CX P w) k f fd ps (spF K ca encs fun a => fnO (fun r => .fr (enr r)) (code a)))
    (hd : d = .no ∨ ∃ r, d = .ok r ∧ enr r = .non) : L2H.FnH P w K mg base (L2N.CX P w) k f fd ps (spE K ca encs enr fun a => fnV d (code a)) :=
  have i := sp_imp (K := K) (ca := ca) (encA := encs) (c1 := fun a => fnO (fun r => .fr (enr r)) (code a)) (c2 := fun a => mb (fnV d (code a)) fun r => .ok (.fr (enr r))) fun a => fnO_fnV (R := fun r => RV.fr (enr r)) (n := code a) (by
    rcases hd with h | ⟨r, h1, h2⟩
    · exact .inl h
    · exact .inr ⟨r, h1, by rw [h2]⟩)
  ⟨fun vs H Q E q => h.len vs H Q E (i _ _ _ _ q), fun A outer s H args us vs Q E p hr h1 h2 he hb hv hs => h.run A outer s H args us vs Q E p hr h1 h2 he hb hv (i _ _ _ _ hs)⟩
theorem ok_ne {α : Type} {x : α} {y : Ex} (h : (M.ok x : M α) = .er y) : False := by cases h
/-- what __init__ answers: the fields behind it -/
def fnI {β γ ρ : Type} (n : M (Out β γ ρ)) : M β := match n with
  | .ok (.nx b) => .ok b
  | .ok _ => .no
  | .er x => .er x
  | .no => .no
theorem fnI_iniO {β γ ρ : Type} (F : β → List (Str × D)) (n : M (Out β γ ρ)) : iniO F n = mb (fnI n) fun r => .ok (F r) := by
  cases n with
  | ok o => cases o <;> rfl
  | er x => rfl
  | no => rfl
theorem fn_I {α β γ ρ : Type} {k : Nat} {f : Addr} {fd : FuncData} {ps : List Str} {encs : α → List Sl} {P : Program} {w : World} {K : PySem.W.Frag} {mg : Str → Option Value} {base : Heap} {ca : Str → Addr} {Cn : Str} {Fl : β → List (Str × D)} {code : α → M (Out β γ ρ)} {g : α → M β} (h : FnOk P w K mg base (L2N.CX P w) k f fd ps (spN K ca Cn encs fun a => iniO Fl (code a)))
    (hg : ∀ a, fnI (code a) = g a) : FnOk P w K mg base (L2N.CX P w) k f fd ps (spN K ca Cn encs fun a => mb (g a) fun r => .ok (Fl r)) := by
  have e : (fun a => iniO Fl (code a)) = fun a => mb (g a) fun r => .ok (Fl r) := by
    funext a
    rw [fnI_iniO, hg a]
  rw [← e]
  exact h
def caL (l : List (Str × Addr)) (x : Str) : Addr := (l.lookup x).getD 0
def faL (l : List Addr) (n : Nat) : Addr := l.getD n 0
def fdL {K : PySem.W.Frag} {x q : Str} {st : Stmt} {f : Addr} {d : FuncData} (_ : Fun K x q st f d) (l : List FuncData) (n : Nat) : FuncData := l.getD n d
theorem kit_self {K : PySem.W.Frag} {C : Addr} : PySem.W.kitOne K (.ref C) (.ref C) = some true := if_pos (by simp)
theorem cx_end {P : Program} {w : World} {H : Hp} {s : Shared} {e : Value} {s' : Shared} (h : L2N.CX P w [] H s (fun _ _ _ => False) e s') : False := by
  obtain ⟨_, _, _, _, _, _, _, _, _, _, _, _, _, _, _, _, w⟩ := h
/-- the positional arguments, then the keyword's -/
theorem a3 {K : PySem.W.Frag} {ca : Str → Addr} {α β γ : Type} {e1 : α → List Sl} {e2 : β → List Sl} {e3 : γ → List Sl} {mk : α → β → γ} (h : ∀ z y, e3 (mk z y) = e1 z ++ e2 y) (G H : Hp) (v : V) (vs zs : List V) (z : α) (y : β) (h1 : ArgL K ca G H vs (e1 z)) (h2 : ArgL K ca G H zs (e2 y)) :
    ∃ ws, (v :: vs) ++ zs = v :: ws ∧ ArgL K ca G H ws (e3 (mk z y)) := by
  refine ⟨vs ++ zs, rfl, ?_⟩
  rw [h]
  have app : ∀ {us : List V} {ss : List Sl}, ArgL K ca G H us ss → ArgL K ca G H (us ++ zs) (ss ++ e2 y) := by
    intro us ss q
    induction q with
    | nil => exact h2
    | cons d t ih => exact .cons d ih
    | consL p d t ih => exact .consL p d ih
  exact app h1
end DL

namespace DL
open PySem PySem.Spec PyProof.Rows L2
variable {X : Cx} {J : Jx}
section
variable {α β β' γ δ ρ : Type} {S S' : List Sl} {N : β → List Sl} {N' : β' → List Sl} {L : γ → List Sl} {R : ρ → RV} {enc : α → D} {enb : β → D} {a b c e tg : Expr} {es : List Expr} {pos p : Pos} {k j : Nat} {rest body : List Stmt}
/-! ### x[i] = e, x a list of one's own -/
def setM {α : Type} (xs : List α) (i : Int) (x : α) : M (List α) := match ixN xs.length i with
  | some j => .ok (xs.set j x)
  | none => .no
theorem ss_put {m : M α} {mi : M Int} {f : List α → M (Out β γ ρ)} {xs : List α} {x : Str} {ie : Expr} {px p2 : Pos} (i : Nat) (hs : S[i]? = some (.ow (xs.map enc))) (hp : PE X (.Name x px) (tVar i)) (he : DE X J S e enc m) (hi : DE X J S ie eI mi)
    (hr : ∀ ys, DSs X J (S.set i (.ow (ys.map enc))) rest N L R (f ys)) (hw : Wk S J.Sx)
    (h1 : swapsWithSole [.Subscript (.Name x px) ie p2] e pos.line X.env = pure false := by rfl) (h2 : swappedStores [.Subscript (.Name x px) ie p2] e X.env = pure none := by rfl) (h3 : (assignEach [.Subscript (.Name x px) ie p2] X.env).map (·.2) = [assign (.Subscript (.Name x px) ie p2) X.env] := by rfl)
    (ha : ∀ v, assign (.Subscript (.Name x px) ie p2) X.env v = (do
      let ov ← holding [v] (eval (.Name x px) X.env)
      let iv ← holding [v, ov] (eval ie X.env)
      standAt p2
      holding [v, ov, iv] (setItem ov iv v)
      release [v, ov, iv] []) := by intro _; rfl) :
    DSs X J S (.Assign [.Subscript (.Name x px) ie p2] e pos :: rest) N L R (mb m fun z => mb mi fun j => mb (setM xs j z) f) :=
  pss_imp (pss_cons (ps_asg he (pg_sub hp hi set_list ha) h1 h2 h3) (pss_ex hr)) fun Dn σ H ⟨G, own, ok, fin⟩ => by
    refine E_bind (FinS.wish hw) ok ⟨fin, ok⟩ fun z v G1 H1 g1 ok1 d r => ?_
    obtain ⟨q, vs, q1, q2, q3, q4⟩ := ok1.sl i _ hs
    refine ⟨.ref q, q1, E_bind (FinS.wish hw) ok1 r fun y u G2 H2 g2 ok2 d2 r2 => ?_⟩
    cases d2
    have hq := g2.h _ _ q3
    have q4' := q4.mono g2.g
    have hl := q4'.length
    rw [List.length_map] at hl
    have r3 := r2.1
    unfold setM at r3
    cases hix : ixN xs.length y with
    | none => rw [hix] at r3; exact r3.elim
    | some jj =>
      rw [hix] at r3
      have dl : DenL X.K J.ca G2 (vs.set jj v) ((xs.set jj z).map enc) := by
        rw [List.map_set]
        exact DenL.set (d.mono g2.g) jj q4'
      exact ⟨q, vs, y, jj, rfl, rfl, hq, by rw [hl]; exact hix, _, G2, own, ok2.mut hq q2 dl q1, r3⟩
/-! ### targets of several names -/
def DGs (X : Cx) (J : Jx) (es : List Expr) {β : Type} (encs : β → List D) (T : β → List Sl → List Sl) : Prop := ∃ t, PGs X es t ∧ ∀ (x : β) (vs : List V) (G H : Hp) (own : Addr → Option Nat) (σ : L2.St) (S : List Sl) (Q : L2.St → Hp → Prop), OkX X J G H own σ S → DenL X.K J.ca G vs (encs x) →
  (∀ σ' own', OkX X J G H own' σ' (T x S) → Q σ' H) → t vs σ H Q
theorem gs_nil : DGs X J [] (fun _ : β => []) (fun _ S => S) := ⟨_, pgs_nil, fun x vs G H own σ S Q ok d q => by cases d; exact ⟨rfl, q σ own ok⟩⟩
theorem gs_cons {d : β → D} {encs : β → List D} {T : β → List Sl → List Sl} {i : Nat} {x : Str} (hN : X.N.Nodup) (h2 : DGs X J es encs T) (hi : X.N[i]? = some x := by rfl) (hx : Loc X.env.scope x := by first | exact Or.inl rfl | exact Or.inr rfl) (hf : X.fn x = true ∨ X.env.scope.names.lookup x = some .local := by first | exact .inl rfl | exact .inr rfl)
    (hs : (assignEach (.Name x p :: es) X.env).map (·.2) = assign (.Name x p) X.env :: (assignEach es X.env).map (·.2) := by rfl) : DGs X J (.Name x p :: es) (fun z => d z :: encs z) (fun z S => T z (S.set i (.fr (d z)))) := by
  obtain ⟨t, h, ht⟩ := h2
  refine ⟨_, pgs_cons (pg_name hN hi hx hf) h hs, fun z vs G H own σ S Q ok den q => ?_⟩
  cases den with
  | cons d1 d2 => exact ⟨_, _, rfl, ht z _ G H own _ _ Q (ok.setF d1) d2 q⟩
theorem g_tup {encs : α → List D} {T : α → List Sl → List Sl} {kk n : Nat} (hc : X.calm = true) (h : DGs X J es encs T) (he : ∀ z, enc z = .tup (encs z)) (hl : ∀ z, (encs z).length = n) (hn : (assignEach es X.env).length = n := by rfl) (hst : (assignEach es X.env).findIdx? (·.1) = none := by rfl) : DG X J (.Tuple es kk pos) enc T := by
  obtain ⟨t, h, ht⟩ := h
  refine ⟨_, pg_tup hc h hn hst, fun z v G H own σ S Q ok d q => ?_⟩
  rw [he z] at d
  obtain ⟨a, vs, rfl, h1, h2⟩ := Den.tup' (X := X) d
  exact ⟨a, vs, rfl, same_seqT ok.gh h1, by rw [h2.length, hl], ht z vs G H own σ S Q ok h2 q⟩
theorem g_unl {encs : α → List D} {T : α → List Sl → List Sl} {kk n : Nat} (hc : X.calm = true) (h : DGs X J es encs T) (he : ∀ z, enc z = .lst (encs z)) (hl : ∀ z, (encs z).length = n) (hn : (assignEach es X.env).length = n := by rfl) (hst : (assignEach es X.env).findIdx? (·.1) = none := by rfl) : DG X J (.Tuple es kk pos) enc T := by
  obtain ⟨t, h, ht⟩ := h
  refine ⟨_, pg_unl hc h hn hst, fun z v G H own σ S Q ok d q => ?_⟩
  rw [he z] at d
  obtain ⟨a, vs, rfl, h1, h2⟩ := Den.lst' (X := X) d
  exact ⟨a, vs, rfl, SqL.of (ok.gh _ _ h1), by rw [h2.length, hl], ht z vs G H own σ S Q ok h2 q⟩
/-- target = e -/
theorem ss_asgG {m : M α} {f : α → M (Out β γ ρ)} {T : α → List Sl → List Sl} (he : DE X J S e enc m) (hg : DG X J tg enc T) (hr : ∀ x, DSs X J (T x S) rest N L R (f x)) (hw : Wk S J.Sx) (h1 : swapsWithSole [tg] e pos.line X.env = pure false := by rfl) (h2 : swappedStores [tg] e X.env = pure none := by rfl) (h3 : (assignEach [tg] X.env).map (·.2) = [assign tg X.env] := by rfl) :
    DSs X J S (.Assign [tg] e pos :: rest) N L R (mb m f) := by
  obtain ⟨g, hg, hgt⟩ := hg
  exact pss_imp (pss_cons (ps_asg he hg h1 h2 h3) (pss_ex hr)) fun Dn σ H ⟨G, own, ok, fin⟩ =>
    E_bind (FinS.wish hw) ok ⟨fin, ok⟩ fun x v G1 H1 g1 ok1 d r => hgt x v G1 H1 own σ S _ ok1 d fun σ' own' ok' => ⟨x, G1, own', ok', r.1⟩
/-- a list of a known length, by its items -/
def un2 {α : Type} : List α → M (α × α)
  | [a, b] => .ok (a, b)
  | _ => .no
def un3 {α : Type} : List α → M (α × α × α)
  | [a, b, c] => .ok (a, b, c)
  | _ => .no
def un4 {α : Type} : List α → M (α × α × α × α)
  | [a, b, c, d] => .ok (a, b, c, d)
  | _ => .no
theorem e_un {κ : Type} {enk : κ → D} {un : List α → M κ} (hun : (∀ xs z, un xs = .ok z → eL enc xs = enk z) ∧ ∀ xs y, un xs ≠ .er y) {m : M (List α)} (h : DE X J S a (eL enc) m) : DE X J S a enk (mb m un) := e_enc h (by
  cases m with
  | ok xs => exact ⟨fun z hz => ⟨xs, rfl, hun.1 xs z hz⟩, fun y hy => absurd hy (hun.2 xs y)⟩
  | er x => exact ⟨fun z hz => (by cases hz), fun y hy => (by cases hy; rfl)⟩
  | no => exact ⟨fun z hz => (by cases hz), fun y hy => (by cases hy)⟩)
theorem un2_ok : (∀ (xs : List α) z, un2 xs = .ok z → eL enc xs = eH2 enc enc z) ∧ ∀ (xs : List α) y, un2 xs ≠ .er y := by
  constructor
  · intro xs z h
    unfold un2 at h
    split at h
    · cases h; rfl
    · cases h
  · intro xs y h
    unfold un2 at h
    split at h <;> cases h
theorem un3_ok : (∀ (xs : List α) z, un3 xs = .ok z → eL enc xs = eH3 enc enc enc z) ∧ ∀ (xs : List α) y, un3 xs ≠ .er y := by
  constructor
  · intro xs z h
    unfold un3 at h
    split at h
    · cases h; rfl
    · cases h
  · intro xs y h
    unfold un3 at h
    split at h <;> cases h
theorem un4_ok : (∀ (xs : List α) z, un4 xs = .ok z → eL enc xs = eH4 enc enc enc enc z) ∧ ∀ (xs : List α) y, un4 xs ≠ .er y := by
  constructor
  · intro xs z h
    unfold un4 at h
    split at h
    · cases h; rfl
    · cases h
  · intro xs y h
    unfold un4 at h
    split at h <;> cases h
/-- a, b = e, f: both names local -/
theorem ss_par2 {m : M α} {n : M β'} {encb : β' → D} {f : α → β' → M (Out β γ ρ)} {i j : Nat} {x y : Str} {px py pt pt2 : Pos} {kt k2 : Nat} (hc : X.calm = true) (hN : X.N.Nodup) (ha : DE X J S a enc m) (hb : DE X J S b encb n) (hr : ∀ x y, DSs X J ((S.set i (.fr (enc x))).set j (.fr (encb y))) rest N L R (f x y)) (hw : Wk S J.Sx) (hij : i ≠ j := by decide)
    (hi : X.N[i]? = some x := by rfl) (hj : X.N[j]? = some y := by rfl) (hx : X.env.scope.names.lookup x = some .local := by rfl) (hy : X.env.scope.names.lookup y = some .local := by rfl)
    (h2 : swappedStores [.Tuple [.Name x px, .Name y py] kt pt] (.Tuple [a, b] k2 pt2) X.env = pure (some [x, y]) := by rfl)
    (h1 : swapsWithSole [.Tuple [.Name x px, .Name y py] kt pt] (.Tuple [a, b] k2 pt2) pos.line X.env = pure false := by rfl) (hs : starEach [a, b] X.env = (false, eval a X.env) :: starEach [b] X.env := by rfl) (hs2 : starEach [b] X.env = (false, eval b X.env) :: starEach [] X.env := by rfl) :
    DSs X J S (.Assign [.Tuple [.Name x px, .Name y py] kt pt] (.Tuple [a, b] k2 pt2) pos :: rest) N L R (mb m fun x => mb n fun y => f x y) :=
  pss_imp (pss_cons (ps_par hc hN hi hj hij hx hy (pa_cons ha (pa_cons hb pa_nil hs2) hs) h2 h1) (pss_ex fun x : α => pss_ex fun y : β' => hr x y)) fun Dn σ H ⟨G, own, ok, fin⟩ =>
    E_bind (FinS.wish hw) ok ⟨fin, ok⟩ fun z v G1 H1 g1 ok1 d r => E_bind (FinS.wish hw) ok1 r fun y u G2 H2 g2 ok2 d2 r2 =>
      ⟨v, u, rfl, z, y, G2, own, (ok2.setF (d.mono g2.g)).setF d2, r2.1⟩
/-! ### int(b), texts -/
theorem e_intB {m : M Bool} (hm : X.mg "int" = none) (h : PA X [a] (tCons (tE X J S eB m) tNil)) (hg : Gl X "int" := by rfl)
    (he : starEach (a :: []) X.env = (false, eval a X.env) :: starEach [] X.env := by rfl) (hpl : (backTo pos (starEach [] X.env)).any (·.1) = false := by rfl) : DE X J S (.Call (.Name "int" p) [a] [] pos) eI (mb m fun x => .ok (if x = true then 1 else 0)) :=
  pe_imp (pe_callTy call_int1 hg hm boot_int h (by decide) (by decide) he hpl) fun σ H Q ⟨G, own, ok, fin⟩ => E_bind (Fin.wish (enc := eI) (Q := Q)) ok fin fun i v G1 H1 g ok1 d r => by
    cases d
    exact .inr ⟨i, rfl, r _ G1 H1 (Grow.refl ok1.gh) (.int _)⟩
def catS (x y : Str) : M Str := if x.length + y.length ≤ line then .ok (x ++ y) else .no
theorem e_catS {m n : M Str} (ha : DE X J S a eS m) (hb : DE X J S b eS n) : DE X J S (.BinOp a .Add b pos) eS (mb m fun x => mb n fun y => catS x y) :=
  pe_imp (pe_op op_add_str ha hb) fun σ H Q ⟨G, own, ok, fin⟩ => E_bind Fin.wish ok fin fun x v G1 H1 g1 ok1 d1 r => E_bind Fin.wish ok1 r fun y u G2 H2 g2 ok2 d2 r2 => by
    cases d1; cases d2
    unfold catS at r2
    split at r2
    · rename_i h
      exact ⟨x, y, rfl, rfl, Nat.le_trans h line_le, r2 _ G2 H2 (Grow.refl ok2.gh) (.str _)⟩
    · exact r2.elim
def lenS (x : Str) : M Int := if x.length ≤ line then .ok (x.length : Int) else .no
theorem e_lenStr {m : M Str} (hm : X.mg "len" = none) (h : PA X [a] (tCons (tE X J S eS m) tNil)) (hg : Gl X "len" := by rfl)
    (he : starEach (a :: []) X.env = (false, eval a X.env) :: starEach [] X.env := by rfl) (hpl : (backTo pos (starEach [] X.env)).any (·.1) = false := by rfl) : DE X J S (.Call (.Name "len" p) [a] [] pos) eI (mb m fun x => lenS x) :=
  pe_imp (pe_callB call_len_str hg hm PySem.boot_len h (by decide) (by decide) he hpl) fun σ H Q ⟨G, own, ok, fin⟩ => E_bind Fin.wish ok fin fun x v G1 H1 g ok1 d r => by
    cases d
    unfold lenS at r
    split at r
    · rename_i h
      exact ⟨x, rfl, Nat.le_trans h line_le, r _ G1 H1 (Grow.refl ok1.gh) (.int _)⟩
    · exact r.elim
end
end DL

namespace DL
open PySem PySem.Spec PyProof.Rows L2
variable {X : Cx} {J : Jx}
section
variable {α β γ δ ρ : Type} {S : List Sl} {enc : α → D} {enb : β → D} {a b c e : Expr} {es : List Expr} {pos p : Pos} {k j : Nat}
/-! ### sum of a tuple of ints -/
theorem cr_sumT (hc : X.calm = true) : CallR X (.builtin "sum") (fun vs H Q => ∃ (a : Addr) (ns : List Int), vs = [V.ref a] ∧ SqT X.K H a (ns.map V.int) ∧ Q (.int ns.sum) H) := by
  intro pins s σ H vs us Q I r h
  obtain ⟨a, ns, rfl, hs, q⟩ := h
  obtain ⟨its, rv, hl, _⟩ := I.tuple hs
  rw [Vals.ref1 r]
  have hi := rv.ints
  obtain ⟨xs, hx⟩ := hi.allInts.items
  have hn : numsOf its.toArray.toList = ns := by rw [show its.toArray.toList = its from rfl, hi.numsOf]
  have hl' : s.heap.IsTuple a its.toArray := hl
  rw [hx] at hl' hn
  rw [nums_intItems] at hn
  refine PySem.W.ktm_sumG (I.ok.hd hc) hl' fun h' tk t' hk => ⟨.int _, H, I.kept hk, ⟨t', ?_⟩, q⟩
  rw [preSum_eq, List.take_of_length_le (by simp), hn]
theorem e_sumT {m : M (List Int)} (hc : X.calm = true) (hm : X.mg "sum" = none) (h : PA X [a] (tCons (tE X J S (eT eI) m) tNil)) (hg : Gl X "sum" := by rfl)
    (he : starEach (a :: []) X.env = (false, eval a X.env) :: starEach [] X.env := by rfl) (hpl : (backTo pos (starEach [] X.env)).any (·.1) = false := by rfl) : DE X J S (.Call (.Name "sum" p) [a] [] pos) eI (mb m fun xs => .ok xs.sum) :=
  pe_imp (pe_callB (cr_sumT hc) hg hm (by decide +kernel) h (by decide) (by decide) he hpl) fun σ H Q ⟨G, own, ok, fin⟩ => E_bind Fin.wish ok fin fun xs v G1 H1 g ok1 d r => by
    obtain ⟨q, vs, rfl, h1, h2⟩ := Den.tuple (X := X) ok1.gh d
    rw [DenL.ints h2] at h1
    exact ⟨q, xs, rfl, h1, r _ G1 H1 (Grow.refl ok1.gh) (.int _)⟩
/-! ### sorted(xs), ints -/
def sortI (xs : List Int) : List Int := xs.mergeSort fun a b => decide (a ≤ b)
theorem sortI_eq {xs ys : List Int} (h : ys.Perm xs) (h2 : ys.Pairwise (· ≤ ·)) : ys = sortI xs := by
  have p : (sortI xs).Perm xs := List.mergeSort_perm _ _
  have s : (sortI xs).Pairwise (· ≤ ·) := by
    have := List.pairwise_mergeSort (le := fun a b : Int => decide (a ≤ b)) (fun a b c h1 h2 => by simp at *; omega) (fun a b => by simp; omega) xs
    exact this.imp fun h => by simpa using h
  exact (h.trans p.symm).eq_of_pairwise (fun a b _ _ h1 h2 => Int.le_antisymm h1 h2) h2 s
theorem o_sorted {m : M (List Int)} (hm : X.mg "sorted" = none) (h : PA X [a] (tCons (tEb X J S (eL eI) m) tNil)) (hg : Gl X "sorted" := by rfl)
    (he : starEach (a :: []) X.env = (false, eval a X.env) :: starEach [] X.env := by rfl) (hpl : (backTo pos (starEach [] X.env)).any (·.1) = false := by rfl) : DO X J S (.Call (.Name "sorted" p) [a] [] pos) eI (mb m fun xs => .ok (sortI xs)) :=
  pe_imp (pe_callB cr_sortedI hg hm (by decide +kernel) h (by decide) (by decide) he hpl) fun σ H Q ⟨G, own, ok, fin⟩ => B_bind FinO.wish ok fin fun xs v G1 H1 g ok1 d r => by
    obtain ⟨q, vs, rfl, h1, h2⟩ := DenB.list ok1.gh d
    rw [DenL.ints h2] at h1
    refine ⟨q, xs, rfl, SqL.of h1, fun ns' l hp hw hl => ?_⟩
    rw [sortI_eq hp hw]
    exact r l _ G1 _ (Grow.allocO ok1.gh hl) hl upd_same (Same.free ok1.gh hl) (DL.DenL.of_ints _)
/-! ### a sign of a text -/
def ixC (x : Str) (i : Int) : M Str := if x.length ≤ line then (match atI x.cps.toList i with
  | some c => .ok ⟨#[c]⟩
  | none => .no) else .no
theorem e_ixStr {m : M Str} {mi : M Int} (ha : DE X J S a eS m) (hb : DE X J S b eI mi) (hs : PlainIx b := by intro _ _; rfl) : DE X J S (.Subscript a b pos) eS (mb m fun x => mb mi fun i => ixC x i) :=
  pe_imp (pe_ix ix_str ha hb hs) fun σ H Q ⟨G, own, ok, fin⟩ => E_bind Fin.wish ok fin fun x v G1 H1 g ok1 d r => E_bind Fin.wish ok1 r fun i u G2 H2 g2 ok2 d2 r2 => by
    cases d; cases d2
    unfold ixC at r2
    split at r2
    · rename_i hz
      split at r2
      · rename_i c hc
        exact ⟨x, i, c, rfl, rfl, Nat.le_trans hz line_le, hc, r2 _ G2 H2 (Grow.refl ok2.gh) (.str _)⟩
      · exact r2.elim
    · exact r2.elim
end
/-! ### classes without defaults, with defaults -/
theorem funD_of {K : PySem.W.Frag} {x q : Str} {st : Stmt} {f : Addr} {fd : FuncData} (F : Fun K x q st f fd) : FunD K x q (defArgs st) (defBody st) (defScope st) [] [] f fd := by
  obtain ⟨oc, od, kV, doc, pm, an, cdv, ct, osl, e, l, c⟩ := F.ex
  exact ⟨⟨oc, od, .none, kV, doc, pm, an, cdv, ct, osl, e, l, c, .inl ⟨rfl, rfl⟩, .inl rfl⟩, F.kp⟩
theorem kb_all {K : PySem.W.Frag} {fd : FuncData} {ps : List Str} {n : Nat} (b : Binds K fd ps []) (hn : n = ps.length := by rfl) : ∃ g, KBn K fd ps n [] g (fun vs zs => vs ++ zs) :=
  ⟨fun us ws => us ++ ws, fun s us ws X h1 h2 => by
    cases ws with
    | nil => exact b s us X (by rw [List.append_nil, h1, hn])
    | cons w ws => simp at h2, fun r1 r2 => r1.append r2⟩
theorem kb_dfl {K : PySem.W.Frag} {fd : FuncData} {ps : List Str} {n : Nat} {dvs : List V} (h : ∃ ds, Vals dvs ds ∧ Binds K fd ps ds) (hn : n + dvs.length = ps.length) : ∃ g, KBn K fd ps n [] g (fun vs _ => vs ++ dvs) := by
  obtain ⟨ds, h1, h2⟩ := h
  refine ⟨fun us _ => us ++ ds, ⟨fun s us ws X l1 l2 => ?_, fun r1 _ => r1.append h1⟩⟩
  cases ws with
  | nil => exact h2 s us X (by rw [List.length_append, ← h1.length, l1, hn])
  | cons w ws => simp at l2
/-- defaults behind the arguments -/
theorem a3d {K : PySem.W.Frag} {ca : Str → Addr} {α β γ : Type} {e1 : α → List Sl} {e2 : β → List Sl} {e3 : γ → List Sl} {mk : α → β → γ} {ds : List D} {vs0 : List V} (hd : ∀ {G : Hp}, DenL K ca G vs0 ds) (h : ∀ z y, e3 (mk z y) = e1 z ++ ds.map Sl.fr) (G H : Hp) (v : V) (vs zs : List V) (z : α) (y : β) (h1 : ArgL K ca G H vs (e1 z)) (h2 : ArgL K ca G H zs (e2 y)) :
    ∃ ws, (v :: vs) ++ vs0 = v :: ws ∧ ArgL K ca G H ws (e3 (mk z y)) := by
  refine ⟨vs ++ vs0, rfl, ?_⟩
  rw [h]
  have app : ∀ {us : List V} {ss : List Sl}, ArgL K ca G H us ss → ArgL K ca G H (us ++ vs0) (ss ++ ds.map Sl.fr) := by
    intro us ss q
    induction q with
    | nil => exact ArgL.of hd
    | cons d t ih => exact .cons d ih
    | consL p d t ih => exact .consL p d ih
  exact app h1
end DL

namespace DL
open PySem PySem.Spec PyProof.Rows L2
variable {X : Cx} {J : Jx}
section
variable {α β β' γ δ ρ : Type} {S S' : List Sl} {N : β → List Sl} {N' : β' → List Sl} {L : γ → List Sl} {R : ρ → RV} {enc : α → D} {enb : β → D} {a b c e tg : Expr} {es : List Expr} {pos p : Pos} {k j : Nat} {rest body : List Stmt}
/-! ### methods that change a list of one's own -/
def insM (xs : List α) (i : Int) (x : α) : M (List α) := if 0 ≤ i ∧ i < 2 ^ 62 ∧ xs.length < line then .ok (xs.take i.toNat ++ [x] ++ xs.drop i.toNat) else .no
theorem ss_ins {m : M α} {mi : M Int} {f : List α → M (Out β γ ρ)} {xs : List α} {x : Str} {px p2 pos2 : Pos} (i : Nat) (hs : S[i]? = some (.ow (xs.map enc))) (hp : PE X (.Name x px) (tVar i)) (hi : DE X J S a eI mi) (he : DE X J S e enc m) (hr : ∀ ys, DSs X J (S.set i (.ow (ys.map enc))) rest N L R (f ys)) (hw : Wk S J.Sx)
    (hb : PE X (.Call (.Attribute (.Name x px) "insert" p2) [a, e] [] pos2) (tBM X.K "list" (fun x vs H Q => ∃ (l : Addr) (xs : List V) (i : Int) (y : V), x = .ref l ∧ vs = [.int i, y] ∧ H l = some (.lst xs) ∧ xs.length < sizeLine ∧ 0 ≤ i ∧ i < 2 ^ 63 ∧
      Q .non (upd H l (.lst (xs.take i.toNat ++ [y] ++ xs.drop i.toNat)))) (tVar i) (tCons (tE X J S eI mi) (tCons (tE X J S enc m) tNil))))
    (hsw : swapsWith (.Call (.Attribute (.Name x px) "insert" p2) [a, e] [] pos2) none pos.line X.env = pure false := by rfl) :
    DSs X J S (.Expr (.Call (.Attribute (.Name x px) "insert" p2) [a, e] [] pos2) pos :: rest) N L R (mb mi fun j => mb m fun z => mb (insM xs j z) f) :=
  pss_imp (pss_cons (ps_expr hb hsw) (pss_ex hr)) fun Dn σ H ⟨G, own, ok, fin⟩ => by
    obtain ⟨q, vs, h1, h2, h3, h4⟩ := ok.sl i _ hs
    refine ⟨.ref q, h1, .inl ⟨rfl, _, SqL.of h3⟩, ?_⟩
    refine E_bind (FinS.wish hw) ok ⟨fin, ok⟩ fun j u G1 H1 g1 ok1 d1 r1 => E_bind (FinS.wish hw) ok1 r1 fun z v G2 H2 g2 ok2 d r => ?_
    cases d1
    have hq := g2.h _ _ (g1.h _ _ h3)
    have h4' := (h4.mono g1.g).mono g2.g
    have hl := h4.length
    rw [List.length_map] at hl
    have r2 := r.1
    unfold insM at r2
    split at r2
    · rename_i hz
      have dl : DenL X.K J.ca G2 (vs.take j.toNat ++ [v] ++ vs.drop j.toNat) ((xs.take j.toNat ++ [z] ++ xs.drop j.toNat).map enc) := by
        rw [List.map_append, List.map_append, List.map_take, List.map_drop]
        exact ((h4'.take _).append (.cons d .nil)).append (h4'.drop _)
      exact ⟨q, vs, j, v, rfl, rfl, hq, by rw [hl]; exact Nat.lt_of_lt_of_le hz.2.2 line_le, hz.1, by omega, _, G2, own, ok2.mut hq h2 dl h1, r2⟩
    · exact r2.elim
/-- the last item, the rest -/
def popM (xs : List α) : M (α × List α) := match xs[xs.length - 1]? with
  | some x => .ok (x, xs.dropLast)
  | none => .no
theorem DenL.dropLast {K : PySem.W.Frag} {ca : Str → Addr} {H : Hp} {vs : List V} {ds : List D} (h : DenL K ca H vs ds) : DenL K ca H vs.dropLast ds.dropLast := by
  rw [List.dropLast_eq_take, List.dropLast_eq_take, h.length]
  exact h.take _
/-- what a pop leaves -/
theorem pop_of {G H : Hp} {own : Addr → Option Nat} {σ : L2.St} {i : Nat} {xs : List α} {q : Addr} {vs : List V} {y : α} {ys : List α} (ok : OkX X J G H own σ S) (h1 : σ[i]? = some (some (.ref q))) (h2 : own q = some i) (h3 : H q = some (.lst vs)) (h4 : DenL X.K J.ca G vs (xs.map enc)) (hy : popM xs = .ok (y, ys)) :
    ∃ v, vs[vs.length - 1]? = some v ∧ Den X.K J.ca G v (enc y) ∧ OkX X J G (upd H q (.lst vs.dropLast)) own σ (S.set i (.ow (ys.map enc))) := by
  have hl := h4.length
  rw [List.length_map] at hl
  unfold popM at hy
  split at hy
  · rename_i x hx
    cases hy
    obtain ⟨v, e1, e2⟩ := h4.get (i := xs.length - 1) (d := enc y) (by rw [List.getElem?_map, hx]; rfl)
    refine ⟨v, by rw [hl]; exact e1, e2, ok.mut h3 h2 ?_ h1⟩
    rw [List.map_dropLast]
    exact DenL.dropLast h4
  · cases hy
theorem ss_popS {f : List α → M (Out β γ ρ)} {xs : List α} {x : Str} {px p2 pos2 : Pos} (i : Nat) (hs : S[i]? = some (.ow (xs.map enc))) (hr : ∀ ys, DSs X J (S.set i (.ow (ys.map enc))) rest N L R (f ys))
    (hb : PE X (.Call (.Attribute (.Name x px) "pop" p2) [] [] pos2) (tBM0 X.K "list" rPop (tVar i)))
    (hsw : swapsWith (.Call (.Attribute (.Name x px) "pop" p2) [] [] pos2) none pos.line X.env = pure false := by rfl) :
    DSs X J S (.Expr (.Call (.Attribute (.Name x px) "pop" p2) [] [] pos2) pos :: rest) N L R (mb (popM xs) fun y => f y.2) :=
  pss_imp (pss_cons (ps_expr hb hsw) (pss_ex hr)) fun Dn σ H ⟨G, own, ok, fin⟩ => by
    obtain ⟨q, vs, h1, h2, h3, h4⟩ := ok.sl i _ hs
    cases hy : popM xs with
    | no => rw [hy] at fin; exact fin.elim
    | er z => unfold popM at hy; split at hy <;> cases hy
    | ok y =>
      rw [hy] at fin
      obtain ⟨v, e1, e2, ok2⟩ := pop_of ok h1 h2 h3 h4 hy
      exact ⟨.ref q, h1, .inl ⟨rfl, _, SqL.of h3⟩, q, vs, v, rfl, rfl, h3, e1, _, G, own, ok2, fin⟩
/-- y = x.pop() -/
theorem ss_popA {f : α → List α → M (Out β γ ρ)} {xs : List α} {x y : Str} {px py p2 pos2 : Pos} (i l : Nat) (hN : X.N.Nodup) (hs : S[i]? = some (.ow (xs.map enc))) (hr : ∀ y ys, DSs X J ((S.set i (.ow (ys.map enc))).set l (.fr (enc y))) rest N L R (f y ys))
    (hb : PE X (.Call (.Attribute (.Name x px) "pop" p2) [] [] pos2) (tBM0 X.K "list" rPop (tVar i))) (hi : X.N[l]? = some y := by rfl) (hx : Loc X.env.scope y := by first | exact Or.inl rfl | exact Or.inr rfl)
    (hsw : swapsWith (.Call (.Attribute (.Name x px) "pop" p2) [] [] pos2) (some (.Name y py)) pos.line X.env = pure false := by rfl) (hf : X.fn y = true ∨ X.env.scope.names.lookup y = some .local := by first | exact .inl rfl | exact .inr rfl) :
    DSs X J S (.Assign [.Name y py] (.Call (.Attribute (.Name x px) "pop" p2) [] [] pos2) pos :: rest) N L R (mb (popM xs) fun y => f y.1 y.2) :=
  pss_imp (pss_cons (ps_set (i := l) hN hi hx hb hsw hf) (pss_ex fun y : α => pss_ex fun ys : List α => hr y ys)) fun Dn σ H ⟨G, own, ok, fin⟩ => by
    obtain ⟨q, vs, h1, h2, h3, h4⟩ := ok.sl i _ hs
    cases hy : popM xs with
    | no => rw [hy] at fin; exact fin.elim
    | er z => unfold popM at hy; split at hy <;> cases hy
    | ok y =>
      rw [hy] at fin
      obtain ⟨v, e1, e2, ok2⟩ := pop_of ok h1 h2 h3 h4 hy
      exact ⟨.ref q, h1, .inl ⟨rfl, _, SqL.of h3⟩, q, vs, v, rfl, rfl, h3, e1, y.1, y.2, G, own, ok2.setF e2, fin⟩
end
end DL

namespace DL
open PySem PySem.Spec PyProof.Rows L2
variable {X : Cx} {J : Jx}
section
variable {α β β' γ δ ρ : Type} {S S' : List Sl} {N : β → List Sl} {N' : β' → List Sl} {L : γ → List Sl} {R : ρ → RV} {enc : α → D} {enb : β → D} {a b c e tg : Expr} {es : List Expr} {pos p : Pos} {k j : Nat} {rest body : List Stmt}
/-! ### x += e, x -= e, ints -/
theorem ss_augI {op : Operator} {g : Int → Int → Int} (ho : PIp X op (ipI g)) {m : M Int} {f : Int → M (Out β γ ρ)} {z : Int} {x : Str} {px : Pos} (i : Nat) (hs : S[i]? = some (.fr (eI z))) (hN : X.N.Nodup) (he : DE X J S e eI m) (hr : ∀ y, DSs X J (S.set i (.fr (eI y))) rest N L R (f y)) (hw : Wk S J.Sx)
    (hi : X.N[i]? = some x := by rfl) (hx : Loc X.env.scope x := by first | exact Or.inl rfl | exact Or.inr rfl) (hf : X.fn x = true ∨ X.env.scope.names.lookup x = some .local := by first | exact .inl rfl | exact .inr rfl) :
    DSs X J S (.AugAssign (.Name x px) op e pos :: rest) N L R (mb m fun y => f (g z y)) :=
  pss_imp (pss_cons (ps_aug (i := i) hN hi hx he ho hf) (pss_ex hr)) fun Dn σ H ⟨G, own, ok, fin⟩ => by
    obtain ⟨v, h1, h2⟩ := ok.sl i _ hs
    cases h2
    refine ⟨_, h1, E_bind (FinS.wish hw) ok ⟨fin, ok⟩ fun y u G1 H1 g1 ok1 d r => ?_⟩
    cases d
    exact ⟨z, y, rfl, rfl, _, G1, own, ok1.setF (.int _), r.1⟩
theorem ss_augAdd {m : M Int} {f : Int → M (Out β γ ρ)} {z : Int} {x : Str} {px : Pos} (i : Nat) (hs : S[i]? = some (.fr (eI z))) (hN : X.N.Nodup) (he : DE X J S e eI m) (hr : ∀ y, DSs X J (S.set i (.fr (eI y))) rest N L R (f y)) (hw : Wk S J.Sx)
    (hi : X.N[i]? = some x := by rfl) (hx : Loc X.env.scope x := by first | exact Or.inl rfl | exact Or.inr rfl) (hf : X.fn x = true ∨ X.env.scope.names.lookup x = some .local := by first | exact .inl rfl | exact .inr rfl) :
    DSs X J S (.AugAssign (.Name x px) .Add e pos :: rest) N L R (mb m fun y => f (z + y)) := ss_augI (g := fun i j => i + j) ip_add i hs hN he hr hw hi hx hf
theorem ss_augSub {m : M Int} {f : Int → M (Out β γ ρ)} {z : Int} {x : Str} {px : Pos} (i : Nat) (hs : S[i]? = some (.fr (eI z))) (hN : X.N.Nodup) (he : DE X J S e eI m) (hr : ∀ y, DSs X J (S.set i (.fr (eI y))) rest N L R (f y)) (hw : Wk S J.Sx)
    (hi : X.N[i]? = some x := by rfl) (hx : Loc X.env.scope x := by first | exact Or.inl rfl | exact Or.inr rfl) (hf : X.fn x = true ∨ X.env.scope.names.lookup x = some .local := by first | exact .inl rfl | exact .inr rfl) :
    DSs X J S (.AugAssign (.Name x px) .Sub e pos :: rest) N L R (mb m fun y => f (z - y)) := ss_augI (g := fun i j => i - j) ip_sub i hs hN he hr hw hi hx hf
end
/-! ### more written lengths -/
section
variable {α β γ δ ε ζ : Type}
def eP5 (e : α → D) (f : β → D) (g : γ → D) (h : δ → D) (i : ε → D) : α × β × γ × δ × ε → D := fun p => .tup [e p.1, f p.2.1, g p.2.2.1, h p.2.2.2.1, i p.2.2.2.2]
def eH5 (e : α → D) (f : β → D) (g : γ → D) (h : δ → D) (i : ε → D) : α × β × γ × δ × ε → D := fun p => .lst [e p.1, f p.2.1, g p.2.2.1, h p.2.2.2.1, i p.2.2.2.2]
def eP6 (e : α → D) (f : β → D) (g : γ → D) (h : δ → D) (i : ε → D) (j : ζ → D) : α × β × γ × δ × ε × ζ → D := fun p => .tup [e p.1, f p.2.1, g p.2.2.1, h p.2.2.2.1, i p.2.2.2.2.1, j p.2.2.2.2.2]
def eH6 (e : α → D) (f : β → D) (g : γ → D) (h : δ → D) (i : ε → D) (j : ζ → D) : α × β × γ × δ × ε × ζ → D := fun p => .lst [e p.1, f p.2.1, g p.2.2.1, h p.2.2.2.1, i p.2.2.2.2.1, j p.2.2.2.2.2]
def un5 : List α → M (α × α × α × α × α)
  | [a, b, c, d, e] => .ok (a, b, c, d, e)
  | _ => .no
def un6 : List α → M (α × α × α × α × α × α)
  | [a, b, c, d, e, f] => .ok (a, b, c, d, e, f)
  | _ => .no
theorem un5_ok {enc : α → D} : (∀ (xs : List α) z, un5 xs = .ok z → eL enc xs = eH5 enc enc enc enc enc z) ∧ ∀ (xs : List α) y, un5 xs ≠ .er y := by
  constructor
  · intro xs z h
    unfold un5 at h
    split at h
    · cases h; rfl
    · cases h
  · intro xs y h
    unfold un5 at h
    split at h <;> cases h
theorem un6_ok {enc : α → D} : (∀ (xs : List α) z, un6 xs = .ok z → eL enc xs = eH6 enc enc enc enc enc enc z) ∧ ∀ (xs : List α) y, un6 xs ≠ .er y := by
  constructor
  · intro xs z h
    unfold un6 at h
    split at h
    · cases h; rfl
    · cases h
  · intro xs y h
    unfold un6 at h
    split at h <;> cases h
end
end DL

namespace DL
open PySem PySem.Spec PyProof.Rows L2
/-! ### set(xs), xs a list of ints: __new__ by code_set_led1, the loop of __init__ by set_update_ints (by name); the walk of type.__call__ and of set.__init__ is here -/
/-- what set.__new__ lays -/
abbrev freshSet (w : World) : Obj := { cls := .type "set", dict := none, data := .set #[] 0 (.fresh 0 0 (!w.params.followText "set-order")) }
section
variable {P : Program} {w : World} {A : Around} {E : Value → Shared → Prop}
theorem init_setL {s : Shared} {S l : Addr} {items : Array Value} {ns : List Int} {Q : PySem.Fin → Shared → Prop} (hh : A.handled = none) (hS : s.heap.get? S = some (freshSet w)) (hl : s.heap.IsList l items) (hne : S ≠ l) (hi : IntsAre items.toList ns) (hb : ns.length + 1 < scanBound)
    (h : ∀ s' c, Moved [S, s.heap.objs.size] (fun a b => b = a) { s with heap := s.heap.push { cls := .type "list_iterator", data := .fields #[.ref l, .int 0 0] } } s' → c ≤ ns.length → SetR w s'.heap S (fun j => decide (j ∈ ns)) c → Q (.done (.ret .none)) s') :
    wpAny (model P w) A (Builtin.«set.__init__» ⟨[.ref S, .ref l], []⟩) Q E s := by
  have hS2 := hS
  have hl2 := hl
  obtain ⟨ol, h1, h2, nl, h3⟩ := hl2
  obtain ⟨c1, d1, dt1, sl1⟩ := ol
  simp only at h2 h3
  subst h2 h3
  have s1 := F.sub_list_set
  have s2 := F.sub_list_frozenset
  have s3 : (Value.type "list" == Value.type "dict") = false := by decide
  obtain ⟨hp, g, d, tk, os⟩ := s
  dsimp only at hS hl h1 h
  unfold Builtin.«set.__init__» noKeywords Builtin.Frozenset.updateFrom
  refine wpAny_bind (wpAny_pure ?_)
  repeat (first | (with_reducible refine wpAny_bind (wpAny_pyIter_list (s := ⟨hp, g, d, tk, os⟩) hl ?_)) | wp_step)
  have hL : l < hp.objs.size := Heap.lt_size h1
  have hSz : S < hp.objs.size := Heap.lt_size hS
  have hA : A.in1.handled = none := by simp [hh]
  have g1 : (hp.push { cls := Value.type "list_iterator", data := Data.fields #[Value.ref l, Value.int 0 0] }).get? S = some (freshSet w) := Heap.get?_push_of_some _ hS
  have hlen : items.size = ns.length := by rw [← IntsAre.length hi, Array.length_toList]
  refine set_update_ints (Walks.toS (Walks.list hA hp.objs.size l (Nat.ne_of_lt hL) items)) S (fun z => ?_) ns hlen hb (fun i v hv => ?_) items.size 0 _ rfl (Nat.zero_le _)
    ⟨⟨_, Heap.get?_push_size _ rfl, rfl, rfl⟩, hl.push _⟩ ⟨0, Nat.le_refl _, setR_new_at g1⟩ fun s2 c hm hc hR => ?_
  · rcases List.mem_cons.mp z with e | e
    · exact absurd e (Nat.ne_of_lt hSz)
    · exact hne (List.mem_singleton.mp e)
  · obtain ⟨t, e⟩ := IntsAre.int_at hi i v (by rw [Array.getElem?_toList]; exact hv)
    have hlt : i < ns.length := by rw [← hlen]; exact (Array.getElem?_eq_some_iff.mp hv).1
    exact ⟨ns[i], t, List.getElem?_eq_getElem hlt, by rw [e, List.getD_eq_getElem?_getD, List.getElem?_eq_getElem hlt]; rfl⟩
  · exact wpAny_pure (wpAny_pure (h s2 c hm (by omega) hR))

/-- set(xs): the walk of type.__call__ -/
theorem set_of_list {s : Shared} {l : Addr} {items : Array Value} {ns : List Int} {Q : Value → Shared → Prop} (hh : A.handled = none) (hl : s.heap.IsList l items) (hi : IntsAre items.toList ns) (hb : ns.length + 1 < scanBound)
    (h : ∀ (h' : Heap) (tk c : Nat), SetR w h' s.heap.objs.size (fun j => decide (j ∈ ns)) c → c ≤ ns.length → (∀ b o, s.heap.get? b = some o → h'.get? b = some o) → Q (.ref s.heap.objs.size) { s with heap := h', toks := tk }) :
    wpAny (model P w) A (call (.type "set") [.ref l]) Q E s := by
  have T := F.called_set
  have a1 := T.notType
  have a2 := T.canCreate
  obtain ⟨a3, a4, a5⟩ := T.mro
  have a6 := T.made
  have a7 := T.sub
  have a8 := F.typeCall_set_1 (.ref l)
  have a9 := T.init.lookup
  refine wpAny_call (codeAny_of_tree ?_)
  wp_walk
  have f1 : (freshSet w).cls = .type "set" := rfl
  refine ⟨Code.quiet_builtin _ (by decide +kernel), codeAny_builtin F.entry_type_call ?_⟩
  rw [Around.under_plain (by rfl) (by rfl)]
  wp_walk
  have g1 : (s.heap.push (freshSet w)).get? s.heap.objs.size = some (freshSet w) := Heap.get?_push_size _ rfl
  refine codeAny_mono (code_set_led1 (E := E) (.ref l) (Q₁ := fun o s1 => o = .ref s.heap.objs.size ∧ s1 = { s with heap := s.heap.push (freshSet w) }) ⟨rfl, rfl⟩) ?_
  rintro (e | (_ | _ | _ | o)) s1 hr
  case ok.ret =>
    obtain ⟨e1, e2⟩ := hr
    subst e1 e2
    have b1 := T.init.bind (.ref s.heap.objs.size)
    have t1 : Shared.TypeIs { s with heap := s.heap.push (freshSet w) } (.ref s.heap.objs.size) "set" := ⟨_, g1, rfl⟩
    wp_walk
    have hlt : l < s.heap.objs.size := let ⟨_, e, _⟩ := hl; Heap.lt_size e
    refine codeAny_call_builtin T.init.plain F.entry_set_init (check_set_init_1 t1 (init_setL (s := { s with heap := s.heap.push (freshSet w) }) (by simp [hh]) g1 (hl.push _) (Nat.ne_of_gt hlt) hi hb fun s2 c hm hc hR => ?_))
    have e : s2 = { s with heap := s2.heap, toks := s2.toks } := by
      obtain ⟨a1, a2, a3, a4, a5⟩ := s2
      have e1 := hm.gens
      have e2 := hm.drawn
      have e3 := hm.os
      dsimp only at e1 e2 e3
      subst e1 e2 e3
      rfl
    have hk : ∀ b o, s.heap.get? b = some o → s2.heap.get? b = some o := fun b o hb => by
      have hbl := Heap.lt_size hb
      have hsz : (s.heap.push (freshSet w)).objs.size = s.heap.objs.size + 1 := Heap.size_push ..
      refine hm.heap b o (fun z => ?_) (Heap.get?_push_of_some _ (Heap.get?_push_of_some _ hb))
      rcases List.mem_cons.mp z with q | q
      · exact absurd q (Nat.ne_of_lt hbl)
      · have q2 : b = (s.heap.push (freshSet w)).objs.size := List.mem_singleton.mp q
        rw [q2, hsz] at hbl
        exact absurd hbl (Nat.not_lt.mpr (Nat.le_succ _))
    wp_walk
    rw [e]
    exact h _ _ c hR hc hk
  all_goals first | exact hr | exact hr.elim
end
/-- set(xs), set(t) -/
theorem cr_setI {X : Cx} (hc : X.calm = true) : CallR X (.type "set") (fun vs H Q => ∃ (a : Addr) (ns : List Int), vs = [V.ref a] ∧ (SqL X.K H a (ns.map V.int) ∨ SqT X.K H a (ns.map V.int)) ∧ ns.length < 1000 ∧
    ∀ (p : Addr) (c : Nat), H p = none → c ≤ ns.length → Q (.ref p) (upd H p (SetO X.w p (fun j => decide (j ∈ ns)) c))) := by
  intro pins s σ H vs us Q I r h
  obtain ⟨a, ns, rfl, hs, hl, q⟩ := h
  have hb : ns.length + 1 < scanBound := by have : 1001 ≤ scanBound := by decide
                                            omega
  rw [Vals.ref1 r]
  have fin : ∀ (h' : Heap) (tk c : Nat), SetR X.w h' s.heap.objs.size (fun j => decide (j ∈ ns)) c → c ≤ ns.length → (∀ b o, s.heap.get? b = some o → h'.get? b = some o) → ∃ (y : V) (H' : Hp), Inv X pins σ H' { s with heap := h', toks := tk } ∧ RelV y (.ref s.heap.objs.size) ∧ Q y H' := fun h' tk c R hcn hk =>
    ⟨.ref s.heap.objs.size, _, I.laid (t' := tk) hk (Nat.le_refl _) (setO_new R), rfl, q _ _ (I.hok.fresh (Nat.le_refl _)) hcn⟩
  rcases hs with hs | hs
  · obtain ⟨its, rv, isl, hz⟩ := I.list hs
    exact set_of_list (I.ok.hd hc) isl.isList (ints_of_vals rv) hb fin
  · obtain ⟨its, rv, pt, hz⟩ := I.tuple hs
    exact call_set_tupI ns (I.ok.hd hc) pt (ints_of_vals rv) hb fin
end DL

namespace DL
open PySem PySem.Spec PyProof.Rows L2
variable {X : Cx} {J : Jx}
section
variable {S : List Sl} {a : Expr} {pos p : Pos}
/-- sorted(set(xs)) -/
def nub : List Int → List Int
  | [] => []
  | x :: xs => if x ∈ xs then nub xs else x :: nub xs
theorem mem_nub {k : Int} : ∀ {xs : List Int}, k ∈ nub xs ↔ k ∈ xs
  | [] => Iff.rfl
  | x :: xs => by
    unfold nub
    split
    · rename_i h
      rw [mem_nub, List.mem_cons]
      constructor
      · exact .inr
      · rintro (rfl | h2)
        · exact h
        · exact h2
    · rw [List.mem_cons, List.mem_cons, mem_nub]
theorem nub_nodup : ∀ xs : List Int, (nub xs).Nodup
  | [] => List.nodup_nil
  | x :: xs => by
    unfold nub
    split
    · exact nub_nodup xs
    · rename_i h
      exact List.nodup_cons.mpr ⟨fun q => h (mem_nub.mp q), nub_nodup xs⟩
def usort (xs : List Int) : List Int := sortI (nub xs)
def sortSet (xs : List Int) : M (List Int) := if xs.length < 64 then .ok (usort xs) else .no
theorem usort_eq {xs ns : List Int} (h : ns.Pairwise (· < ·)) (hm : ∀ k : Int, k ∈ ns ↔ decide (k ∈ xs) = true) : ns = usort xs := by
  refine sortI_eq ?_ (h.imp fun z => Int.le_of_lt z)
  refine (List.perm_ext_iff_of_nodup (h.imp fun z => Int.ne_of_lt z) (nub_nodup xs)).mpr fun k => ?_
  rw [hm k, mem_nub, decide_eq_true_eq]
/-- a thing of ints: a list, a tuple -/
def SeqI (X : Cx) (J : Jx) {α : Type} (enc : α → D) (f : α → List Int) : Prop := ∀ (z : α) (v : V) (G H : Hp) (own : Addr → Option Nat), Same G H → DenB X J G H own v (enc z) → ∃ q, v = .ref q ∧ (SqL X.K H q ((f z).map V.int) ∨ SqT X.K H q ((f z).map V.int))
theorem seqI_L : SeqI X J (eL eI) (fun xs => xs) := fun z v G H own sg d => by
  obtain ⟨q, vs, rfl, h1, h2⟩ := DenB.list (X := X) sg d
  rw [DenL.ints h2] at h1
  exact ⟨q, rfl, .inl (SqL.of h1)⟩
theorem seqI_T : SeqI X J (eT eI) (fun xs => xs) := fun z v G H own sg d => by
  obtain ⟨q, vs, rfl, h1, h2⟩ := DenB.tup (X := X) sg d
  rw [DenL.ints h2] at h1
  exact ⟨q, rfl, .inr h1⟩
theorem o_sortSet {α : Type} {enc : α → D} {f : α → List Int} {m : M α} {p2 q2 : Pos} (hc : X.calm = true) (hm : X.mg "sorted" = none) (hm2 : X.mg "set" = none) (hq : SeqI X J enc f) (h : PA X [a] (tCons (tEb X J S enc m) tNil)) (hg : Gl X "sorted" := by rfl) (hg2 : Gl X "set" := by rfl)
    (he2 : starEach (a :: []) X.env = (false, eval a X.env) :: starEach [] X.env := by rfl) (hpl2 : (backTo q2 (starEach [] X.env)).any (·.1) = false := by rfl)
    (he : starEach (Expr.Call (.Name "set" p2) [a] [] q2 :: []) X.env = (false, eval (.Call (.Name "set" p2) [a] [] q2) X.env) :: starEach [] X.env := by rfl) (hpl : (backTo pos (starEach [] X.env)).any (·.1) = false := by rfl) :
    DO X J S (.Call (.Name "sorted" p) [.Call (.Name "set" p2) [a] [] q2] [] pos) eI (mb m fun z => sortSet (f z)) :=
  pe_imp (pe_callB (cr_sortedSet hc) hg hm (by decide +kernel) (pa_cons (pe_callTy (cr_setI hc) hg2 hm2 boot_set h (by decide) (by decide) he2 hpl2) pa_nil he) (by decide) (by decide) he hpl) fun σ H Q ⟨G, own, ok, fin⟩ => B_bind FinO.wish ok fin fun z v G1 H1 g ok1 d r => by
    obtain ⟨q, rfl, h1⟩ := hq z v _ _ _ ok1.gh d
    unfold sortSet at r
    split at r
    · rename_i hl
      refine ⟨q, f z, rfl, h1, by omega, fun t c ht hcl => ⟨t, _, c, rfl, upd_same, by omega, fun ns l h3 h4 h5 h6 => ?_⟩⟩
      rw [usort_eq h3 h4]
      have n1 : l ≠ t := fun z => by rw [z, upd_same] at h6; cases h6
      have hl1 : H1 l = none := by rw [upd_ne n1] at h6; exact h6
      have g1 := Grow.allocO (o := SetO X.w t (fun j => decide (j ∈ f z)) c) ok1.gh ht
      have g2 := Grow.allocO (o := .lst ((usort (f z)).map V.int)) g1.gh h6
      exact r l _ G1 _ (g1.trans g2) hl1 upd_same (Same.free ok1.gh hl1) (DL.DenL.of_ints _)
    · exact r.elim
end
end DL

namespace DL
open PySem PySem.Spec PyProof.Rows L2
variable {X : Cx} {J : Jx}
/-! ### a list or a tuple, by a flag (true: a tuple) -/
def eQ {α : Type} (e : α → D) : Bool × List α → D := fun z => match z with
  | (true, xs) => .tup (xs.map e)
  | (false, xs) => .lst (xs.map e)
section
variable {α β γ δ ρ : Type} {S : List Sl} {enc : α → D} {enb : β → D} {a b c e tg : Expr} {es : List Expr} {pos p : Pos} {k j : Nat}
theorem q_list {m : M (List α)} (h : DE X J S a (eL enc) m) : DE X J S a (eQ enc) (mb m fun xs => .ok (false, xs)) := e_conv (fun xs => (false, xs)) h fun _ => rfl
theorem q_tup {m : M (List α)} (h : DE X J S a (eT enc) m) : DE X J S a (eQ enc) (mb m fun xs => .ok (true, xs)) := e_conv (fun xs => (true, xs)) h fun _ => rfl
theorem Den.seq {G H : Hp} {v : V} {z : Bool × List α} (e : Same G H) (d : Den X.K J.ca G v (eQ enc z)) : ∃ q vs, v = .ref q ∧ (SqL X.K H q vs ∨ SqT X.K H q vs) ∧ DenL X.K J.ca G vs (z.2.map enc) := by
  obtain ⟨b, xs⟩ := z
  cases b with
  | true =>
    obtain ⟨q, vs, h1, h2, h3⟩ := Den.tuple (X := X) e d
    exact ⟨q, vs, h1, .inr h2, h3⟩
  | false =>
    obtain ⟨q, vs, h1, h2, h3⟩ := Den.lst' (X := X) d
    exact ⟨q, vs, h1, .inl (SqL.of (e _ _ h2)), h3⟩
theorem e_lenQ {m : M (Bool × List α)} (hm : X.mg "len" = none) (h : PA X [a] (tCons (tE X J S (eQ enc) m) tNil)) (hg : Gl X "len" := by rfl)
    (he : starEach (a :: []) X.env = (false, eval a X.env) :: starEach [] X.env := by rfl) (hpl : (backTo pos (starEach [] X.env)).any (·.1) = false := by rfl) : DE X J S (.Call (.Name "len" p) [a] [] pos) eI (mb m fun z => .ok (z.2.length : Int)) :=
  pe_imp (pe_callB call_len_seq hg hm PySem.boot_len h (by decide) (by decide) he hpl) fun σ H Q ⟨G, own, ok, fin⟩ => E_bind Fin.wish ok fin fun z v G1 H1 g ok1 d r => by
    obtain ⟨q, vs, rfl, h1, h2⟩ := Den.seq ok1.gh d
    refine ⟨q, vs, rfl, h1, ?_⟩
    have e := h2.length
    rw [List.length_map] at e
    rw [e]
    exact r _ G1 H1 (Grow.refl ok1.gh) (.int _)
theorem ty_qL : ∀ (z : Bool × List α) v G H own, Same G H → DenB X J G H own v (eQ enc z) → ∃ t', TyX X.K H v t' ∧ PySem.W.kitOne X.K t' (.type "list") = some ((fun z => !z.1) z) :=
  fun z v G H own sg d => by
    obtain ⟨b, xs⟩ := z
    cases b with
    | true =>
      obtain ⟨q, vs, rfl, h1, h2⟩ := DenB.tup (X := X) sg d
      exact ⟨_, sqT_ty h1, kit_ty (r := false) (by decide +kernel)⟩
    | false =>
      obtain ⟨q, vs, rfl, h1, h2⟩ := DenB.list (X := X) sg d
      exact ⟨_, .base (.lst h1), kit_ty (r := true) (by decide +kernel)⟩
theorem ty_qT : ∀ (z : Bool × List α) v G H own, Same G H → DenB X J G H own v (eQ enc z) → ∃ t', TyX X.K H v t' ∧ PySem.W.kitOne X.K t' (.type "tuple") = some ((fun z => z.1) z) :=
  fun z v G H own sg d => by
    obtain ⟨b, xs⟩ := z
    cases b with
    | true =>
      obtain ⟨q, vs, rfl, h1, h2⟩ := DenB.tup (X := X) sg d
      exact ⟨_, sqT_ty h1, kit_ty (r := true) (by decide +kernel)⟩
    | false =>
      obtain ⟨q, vs, rfl, h1, h2⟩ := DenB.list (X := X) sg d
      exact ⟨_, .base (.lst h1), kit_ty (r := false) (by decide +kernel)⟩
/-- list(z) -/
theorem o_listQ {m : M (Bool × List α)} (hm : X.mg "list" = none) (h : PA X [a] (tCons (tE X J S (eQ enc) m) tNil)) (hg : Gl X "list" := by rfl)
    (he : starEach (a :: []) X.env = (false, eval a X.env) :: starEach [] X.env := by rfl) (hpl : (backTo pos (starEach [] X.env)).any (·.1) = false := by rfl) : DO X J S (.Call (.Name "list" p) [a] [] pos) enc (mb m fun z => .ok z.2) :=
  pe_imp (pe_callTy call_list_of hg hm boot_list h (by decide) (by decide) he hpl) fun σ H Q ⟨G, own, ok, fin⟩ => E_bind FinO.wish ok fin fun z v G1 H1 g ok1 d r => by
    obtain ⟨q, vs, rfl, h1, h2⟩ := Den.seq ok1.gh d
    exact ⟨q, vs, rfl, h1, fun l hl => r l vs G1 _ (Grow.allocO ok1.gh hl) hl upd_same (Same.free ok1.gh hl) h2⟩
/-- by the flag -/
theorem i_seq {m : M (Bool × List α)} (h : DE X J S a (eQ enc) m) : DI X J S tg a enc (mb m fun z => .ok z.2) := by
  cases m with
  | no => exact ⟨fun pins s σ H Q I ⟨G, own, ok, fin⟩ => fin.elim⟩
  | er x => exact i_list (m := .er x) (e_enc h ⟨fun z hz => (by cases hz), fun y hy => (by cases hy; rfl)⟩)
  | ok z =>
    obtain ⟨b, xs⟩ := z
    cases b with
    | true => exact i_tup (m := .ok xs) (e_enc h ⟨fun z hz => (by cases hz; exact ⟨_, rfl, rfl⟩), fun y hy => (by cases hy)⟩)
    | false => exact i_list (m := .ok xs) (e_enc h ⟨fun z hz => (by cases hz; exact ⟨_, rfl, rfl⟩), fun y hy => (by cases hy)⟩)
theorem e_ixQ {m : M (Bool × List α)} {mi : M Int} (ha : DE X J S a (eQ enc) m) (hb : DE X J S b eI mi) (hs : PlainIx b := by intro _ _; rfl) : DE X J S (.Subscript a b pos) enc (mb m fun z => mb mi fun i => ixM z.2 i) := by
  cases m with
  | no => exact ⟨fun pins s σ H Q I ⟨G, own, ok, fin⟩ => fin.elim⟩
  | er x => exact e_ixT (m := .er x) (e_enc ha ⟨fun z hz => (by cases hz), fun y hy => (by cases hy; rfl)⟩) hb hs
  | ok z =>
    obtain ⟨b', xs⟩ := z
    cases b' with
    | true => exact e_ixT (m := .ok xs) (e_enc ha ⟨fun z hz => (by cases hz; exact ⟨_, rfl, rfl⟩), fun y hy => (by cases hy)⟩) hb hs
    | false => exact e_ixL (m := .ok xs) (b_e (e_enc ha ⟨fun z hz => (by cases hz; exact ⟨_, rfl, rfl⟩), fun y hy => (by cases hy)⟩)) hb hs
end
end DL

namespace DL
open PySem PySem.Spec PyProof.Rows L2
variable {X : Cx} {J : Jx}
section
variable {α β γ δ ρ : Type} {S S1 : List Sl} {N : β → List Sl} {L : γ → List Sl} {R : ρ → RV} {enc : α → D} {a b c e : Expr} {es : List Expr} {pos p : Pos} {k j : Nat} {rest body : List Stmt}
/-! ### try: .. except B as n: .., B a class above those that come (cs) -/
def tryB {β γ ρ : Type} (cs : List Str) (m : M (Out β γ ρ)) (f : Str → List (Str × D) → M (Out β γ ρ)) : M (Out β γ ρ) := match m with
  | .er x => if x.cls ∈ cs then noEr (f x.cls x.args) else .no
  | .ok o => .ok o
  | .no => .no
@[simp] theorem tryB_ok {β γ ρ : Type} (cs : List Str) (o : Out β γ ρ) (f : Str → List (Str × D) → M (Out β γ ρ)) : tryB cs (.ok o) f = .ok o := rfl
theorem tryB_er {β γ ρ : Type} {cs : List Str} {cn : Str} (h : cn ∈ cs) (a : List (Str × D)) (f : Str → List (Str × D) → M (Out β γ ρ)) : tryB cs (.er ⟨cn, a⟩) f = noEr (f cn a) := if_pos h
theorem ss_tryB {cn n : Str} {i : Nat} {b₀ : Stmt} {suite : List Stmt} {np pos' : Pos} {cs : List Str} {mB : M (Out β γ ρ)} {f : Str → List (Str × D) → M (Out β γ ρ)} (C : CxD X J k) (hs : X.stack = X.env :: X.outer) (hf : X.env.frame = some X.env.locals) (hln : X.env.kindOf n = some .local) (hgl : Gl X cn) (hgm : X.mg cn = some (.ref (J.ca cn)))
    (hem : ∀ c ∈ cs, PySem.W.exmOne X.K (.ref (J.ca c)) (.ref (J.ca cn)) = some true) (hi : X.N[i]? = some n) (hd : (cn == ("__debug__" : Str)) = false)
    (hb : ∀ (W : WX) (pn : List (Addr × Obj)) (xe : Value → Shared → Prop), CxD (X.tr pn xe) ⟨J.ca, W, J.B, S1⟩ k → DSs (X.tr pn xe) ⟨J.ca, W, J.B, S1⟩ S body N L R mB)
    (hsu : ∀ (a : Addr) (oe : Obj) (cls : Value) (d : Option Addr) (pn : List (Addr × Obj)) (args : List (Str × D)), CxS (X.suite a ((a, oe) :: pn)) (js J) k → Zc cls d oe → (∃ vs, oe.data = .fields vs) → ∀ c ∈ cs, cls = .ref (J.ca c) → DSs (X.suite a ((a, oe) :: pn)) (js J) (S1.set i (.xc a d args)) (b₀ :: suite) N L R (f c args))
    (hN : ∀ b, (N b)[i]? = some .un) (hL : ∀ b, (L b)[i]? = some .un) :
    DS X J S (.Try body [.ExceptHandler (some (.Name cn np)) (some n) (b₀ :: suite) pos'] [] [] pos) N L R (tryB cs mB f) := by
  have hA : ∀ (a : Addr) (oe : Obj) (cls : Value) (d : Option Addr) (pn : List (Addr × Obj)), L2N.Zn cls d oe → (∃ vs, oe.data = .fields vs) → CxS (X.suite a ((a, oe) :: pn)) (js J) k := fun a oe cls d pn hz ⟨vs, hv⟩ =>
    ⟨⟨(a, oe), ⟨rfl, vs, hv, hz.2.2 vs hv⟩, List.mem_cons_self⟩, L2H.roomH_mark C.room _, takesN, C.nd⟩
  refine ps_imp (L2N.ps_try_as (Wout := J.W) hs hf C.nd hi hln ⟨hgl, hd, .inl hgm⟩ C.tk
    (tb := fun W => tS X ⟨J.ca, W, J.B, S1⟩ S N L R mB)
    (ts := fun a cls d Dn σ H => ∃ c args, c ∈ cs ∧ cls = .ref (J.ca c) ∧ tS X (js J) (S1.set i (.xc a d args)) N L R (f c args) Dn σ H)
    (fun W pn xe tk po => hb W pn xe ⟨C.calm, tk, po, C.room, C.nd⟩) (fun a oe cls d pn hz hv => ?_)) fun Dn σ H ⟨G, own, ok, fin⟩ => ?_
  · refine ⟨fun pins s σ H D I ⟨c, args, hm, hc, q⟩ => ?_⟩
    exact (hsu a oe cls d pn args (hA a oe cls d pn hz hv) hz.zc hv c hm hc).run pins s σ H D I q
  · refine ⟨G, own, ok, ?_⟩
    cases hmB : mB with
    | ok o =>
      rw [hmB] at fin
      cases o with
      | nx b => exact fin
      | rt r => exact fin
      | bk c => exact fin
      | ct c => exact fin
    | no => rw [hmB] at fin; exact fin
    | er x =>
      rw [hmB] at fin
      intro cls d σ' G' H' own' sg ok' ra
      by_cases hx : x.cls ∈ cs
      · have fin2 : FinS X J N L R Dn G (noEr (f x.cls x.args)) := by
          unfold tryB at fin
          simp only [if_pos hx] at fin
          exact fin
        obtain ⟨hc, hd2⟩ := ra
        refine ⟨true, by rw [hc]; exact hem _ hx, fun _ a hn => ⟨x.cls, x.args, hx, hc, G', own', ok'.setX hd2, ?_⟩, fun z => by cases z⟩
        have fin3 := fin2.mono sg
        cases hfa : f x.cls x.args with
        | no => rw [hfa] at fin3; exact fin3.elim
        | er y => rw [hfa] at fin3; exact fin3.elim
        | ok o =>
          rw [hfa] at fin3
          cases o with
          | nx b => exact fun σ2 G2 H2 own2 s2 k2 => fin3 _ G2 H2 own2 s2 (Ok.unset k2 (hN b))
          | rt r => exact fin3
          | bk c => exact fun σ2 G2 H2 own2 s2 k2 => fin3 _ G2 H2 own2 s2 (Ok.unset k2 (hL c))
          | ct c => exact fun σ2 G2 H2 own2 s2 k2 => fin3 _ G2 H2 own2 s2 (Ok.unset k2 (hL c))
      · unfold tryB at fin
        simp only [if_neg hx] at fin
        exact fin.elim
end
end DL

namespace DL
open PySem PySem.Spec PyProof.Rows L2
variable {X : Cx} {J : Jx}
section
variable {β γ ρ : Type} {S S1 : List Sl} {N : β → List Sl} {L : γ → List Sl} {R : ρ → RV} {b c e : Expr} {es : List Expr} {pos p : Pos} {k j : Nat} {rest body : List Stmt}
/-! ### isinstance(e, c), e the caught exception with fields: the library's kitx_exc -/
def isxM (args : List (Str × D)) (r : Bool) : M Bool := match args with
  | [] => .no
  | _ :: _ => .ok r
@[simp] theorem isxM_cons (x : Str × D) (l : List (Str × D)) (r : Bool) : isxM (x :: l) r = .ok r := rfl
theorem call_isX {a D dd : Addr} {oe : Obj} {pn : List (Addr × Obj)} (C : ExcC X.K D) (hz : Zc (.ref D) (some dd) oe) (hf : ∃ vs, oe.data = .fields vs) :
    CallR (X.suite a ((a, oe) :: pn)) (.builtin "isinstance") (fun xs H Q => ∃ (c : V) (cv : Value) (b : Bool), xs = [.ref a, c] ∧ ClsV c cv ∧ PySem.W.kitOne X.K (.ref D) cv = some b ∧ (∃ fs, H dd = some (.xd fs)) ∧ Q (.bl b) H) := by
  intro pins s σ H xs us Q I r h
  obtain ⟨c, cv, b, rfl, hcv, e, hd, q⟩ := h
  obtain ⟨u1, u2, rfl, r1, r2⟩ := vals2 r
  cases (show u1 = Value.ref a from r1)
  obtain rfl := hcv.eq r2
  have pin := (I.pin (a, oe) (List.mem_append.mpr (.inl List.mem_cons_self))).1
  obtain ⟨fs, hfs⟩ := hd
  obtain ⟨_, ⟨ob, _, _, hob, _⟩, _⟩ := I.hok dd _ hfs
  have J : PySem.W.InstAt s.heap a oe D (some ob) := by
    obtain ⟨oc, od, oda, osl⟩ := oe
    obtain ⟨vs, hv⟩ := hf
    obtain ⟨h1, h2⟩ := hz
    dsimp only at h1 h2 hv
    subst h1 h2 hv
    exact ⟨pin, rfl, rfl, hob⟩
  have cl : (PySem.W.clsIn X.K D).isSome = true := by
    obtain ⟨cd, hc, _⟩ := PySem.W.any_some C.hd
    rw [hc]
    rfl
  exact PySem.W.kia_one (PySem.W.kitx_exc cl C.hg C.hk C.hs C.ha C.hn C.ht C.hm) I.kIn J e (fun z => nomatch z) fun tk => ⟨.bl b, H, I.tok tk, rfl, q⟩
theorem e_isX {t : Expr} {x : Str} {px : Pos} {a Da : Addr} {oe : Obj} {cls : Value} {d : Option Addr} {pn : List (Addr × Obj)} {args : List (Str × D)} {cv : V} {u : Value} {r : Bool} {i : Nat} (C : ExcC X.K Da) (hm : X.mg "isinstance" = none)
    (hz : Zc cls d oe) (hf : ∃ vs, oe.data = .fields vs) (hc : cls = .ref Da) (hs : S[i]? = some (.xc a d args)) (hp : PE (X.suite a ((a, oe) :: pn)) (.Name x px) (tVar i)) (hcv : ClsV cv u) (hk : PySem.W.kitOne X.K (.ref Da) u = some r)
    (ht : PE (X.suite a ((a, oe) :: pn)) t (tC cv)) (hg : Gl (X.suite a ((a, oe) :: pn)) "isinstance" := by rfl) (he1 : starEach [t] X.env = (false, eval t X.env) :: starEach [] X.env := by rfl)
    (he : starEach ((.Name x px) :: [t]) X.env = (false, eval (.Name x px) X.env) :: starEach [t] X.env := by rfl) (hpl : (backTo pos (starEach [t] X.env)).any (·.1) = false := by rfl) :
    DE (X.suite a ((a, oe) :: pn)) J S (.Call (.Name "isinstance" p) [.Name x px, t] [] pos) eB (isxM args r) := by
  cases args with
  | nil => exact ⟨fun pins s σ H Q I ⟨G, own, ok, fin⟩ => fin.elim⟩
  | cons y l =>
    refine ⟨fun pins s σ H Q I ⟨G, own, ok, fin⟩ => ?_⟩
    obtain ⟨h1, h2⟩ := ok.sl i _ hs
    rcases h2 with h2 | ⟨dd, vs, h2, h3, h4⟩
    · cases h2
    subst h2 hc
    exact (pe_callB (call_isX C hz hf) hg hm PyProof.Rows.boot_isinstance (pa_cons hp (pa_cons ht pa_nil he1) he) (by decide) (by decide) he hpl).run pins s σ H Q I ⟨.ref a, h1, cv, u, r, rfl, hcv, hk, ⟨_, h3⟩, fin _ G H (Grow.refl ok.gh) (.bl r)⟩
/-! ### try: .. except B as n: .., one class c under B that comes -/
theorem tryB_one {c : Str} {m : M (Out β γ ρ)} {f : List (Str × D) → M (Out β γ ρ)} : tryB [c] m (fun _ a => f a) = tryM c m f := by
  cases m with
  | ok o => rfl
  | no => rfl
  | er x => simp only [tryB, tryM, List.mem_singleton]
theorem ss_tryS {cn cb n : Str} {i : Nat} {b₀ : Stmt} {suite : List Stmt} {np pos' : Pos} {mB : M (Out β γ ρ)} {f : List (Str × D) → M (Out β γ ρ)} (C : CxD X J k) (hs : X.stack = X.env :: X.outer) (hf : X.env.frame = some X.env.locals) (hln : X.env.kindOf n = some .local) (hgl : Gl X cb) (hgm : X.mg cb = some (.ref (J.ca cb)))
    (hem : PySem.W.exmOne X.K (.ref (J.ca cn)) (.ref (J.ca cb)) = some true) (hi : X.N[i]? = some n) (hd : (cb == ("__debug__" : Str)) = false)
    (hb : ∀ (W : WX) (pn : List (Addr × Obj)) (xe : Value → Shared → Prop), CxD (X.tr pn xe) ⟨J.ca, W, J.B, S1⟩ k → DSs (X.tr pn xe) ⟨J.ca, W, J.B, S1⟩ S body N L R mB)
    (hsu : ∀ (a : Addr) (oe : Obj) (cls : Value) (d : Option Addr) (pn : List (Addr × Obj)) (args : List (Str × D)), CxS (X.suite a ((a, oe) :: pn)) (js J) k → Zc cls d oe → (∃ vs, oe.data = .fields vs) → cls = .ref (J.ca cn) → DSs (X.suite a ((a, oe) :: pn)) (js J) (S1.set i (.xc a d args)) (b₀ :: suite) N L R (f args))
    (hN : ∀ b, (N b)[i]? = some .un) (hL : ∀ b, (L b)[i]? = some .un) :
    DS X J S (.Try body [.ExceptHandler (some (.Name cb np)) (some n) (b₀ :: suite) pos'] [] [] pos) N L R (tryM cn mB f) := by
  rw [← tryB_one]
  exact ss_tryB C hs hf hln hgl hgm (fun c hc => by rw [List.mem_singleton.mp hc]; exact hem) hi hd hb (fun a oe cls d pn args Ch hz hv c hc he => hsu a oe cls d pn args Ch hz hv (by rw [he, List.mem_singleton.mp hc])) hN hL
end
end DL

namespace DL
open PySem PySem.Spec PyProof.Rows L2
variable {X : Cx} {J : Jx}
section
variable {α β γ ρ : Type} {S : List Sl} {enc : α → D} {tg a b c e : Expr} {es : List Expr} {pos p : Pos} {k j : Nat}
/-! ### range(i, j, -1) -/
theorem pe_m1 {e : Expr} (h : PE X e (tC (.int 1))) : PE X (.UnaryOp .USub e pos) (tC (.int (-1))) := pe_imp (pe_un un_neg h) fun σ H Q q => ⟨1, rfl, q⟩
def rngD (i j : Int) : List Int := (List.range (i - j).toNat).map fun (q : Nat) => i - (q : Int)
def rngDM (i j : Int) : M (List Int) := if okI i && okI j then .ok (rngD i j) else .no
def rngDL (i j : Int) : M (List Int) := if okI i && okI j && decide ((i - j).toNat ≤ line) then .ok (rngD i j) else .no
theorem rngD_len (i j : Int) : (rngD i j).length = (i - j).toNat := by unfold rngD; rw [List.length_map, List.length_range]
theorem rngD_get {i j : Int} {q : Nat} (h : q < (i - j).toNat) : (rngD i j)[q]? = some (i - q) := by
  unfold rngD; rw [List.getElem?_map, List.getElem?_range h]; rfl
theorem itd_ok {G : Hp} {i j : Int} : ItOk X J G (Itc i (-1) (i - j).toNat) ((rngD i j).map eI) := fun q H2 G2 s0 s1 s2 => by
  refine ⟨fun d hd => ?_, fun hl => ?_⟩
  · have hq : q < (i - j).toNat := by
      have := (List.getElem?_eq_some_iff.mp hd).1
      rwa [List.length_map, rngD_len] at this
    rw [List.getElem?_map, rngD_get hq] at hd
    cases hd
    refine ⟨hq, fun x H3 ⟨e1, e2⟩ => ⟨G2, by rw [e1]; exact Grow.refl s2, ?_⟩⟩
    have e3 : i + (q : Int) * -1 = i - q := by omega
    rw [e2, e3]
    exact .int _
  · rw [List.length_map, rngD_len] at hl
    exact hl
theorem i_rngD {ma mb' : M Int} (hg : Gl X "range") (hm : X.mg "range" = none) (ha : PA X [a, b, c] (tCons (tE X J S eI ma) (tCons (tE X J S eI mb') (tCons (tC (.int (-1))) tNil))))
    (hs : starEach [a, b, c] X.env = (false, eval a X.env) :: starEach [b, c] X.env := by rfl) (hpl : (backTo pos (starEach [b, c] X.env)).any (·.1) = false := by rfl) :
    DI X J S tg (.Call (.Name "range" p) [a, b, c] [] pos) eI (mb ma fun i => mb mb' fun j => rngDM i j) :=
  pi_imp (pi_range3 hg hm ha hs hpl) fun σ H Q ⟨G, own, ok, fin⟩ =>
    E_bind FinI.wish ok fin fun i v G1 H1 g ok1 d r => E_bind FinI.wish ok1 r fun j u G2 H2 g2 ok2 d2 r => by
      cases d
      cases d2
      unfold rngDM at r
      split at r
      · rename_i h
        simp only [okI, Bool.and_eq_true, decide_eq_true_eq] at h
        exact ⟨i, j, -1, _, rfl, RgC.neg h.1.1 h.1.2 h.2.1 h.2.2, r _ G2 H2 (Grow.refl ok2.gh) itd_ok⟩
      · exact r.elim
/-- list(range(i, j, -1)) -/
theorem DenL.rngD {K : PySem.W.Frag} {ca : Str → Addr} {G : Hp} (i j : Int) : DenL K ca G ((rngD i j).map V.int) ((rngD i j).map eI) := DL.DenL.of_ints _
theorem vals_down {i : Int} {acc : Array Value} {n : Nat} (h : ItemsOf (fun q v => ∃ t, v = .int (i + q * (-1)) t) acc n) : Vals ((List.range n).map fun (q : Nat) => V.int (i - q)) acc.toList := by
  have e : acc.toList.length = n := by rw [Array.length_toList]; exact h.1
  rw [← e]
  refine vals_of_get acc.toList _ fun q u hq => ?_
  obtain ⟨t, rfl⟩ := h.2 q u (by rw [← hq, Array.getElem?_toList])
  exact ⟨t, by have e3 : i + (q : Int) * -1 = i - q := by omega
               rw [e3]⟩
theorem o_rngD {ma mb' : M Int} {p2 pos2 : Pos} (hc : X.calm = true) (hm : X.mg "list" = none) (hm2 : X.mg "range" = none) (ha : PA X [a, b, c] (tCons (tE X J S eI ma) (tCons (tE X J S eI mb') (tCons (tC (.int (-1))) tNil)))) (hg : Gl X "list" := by rfl) (hg2 : Gl X "range" := by rfl)
    (hs : starEach [a, b, c] X.env = (false, eval a X.env) :: starEach [b, c] X.env := by rfl) (hpl : (backTo pos2 (starEach [b, c] X.env)).any (·.1) = false := by rfl)
    (nb : starEach [Expr.Call (.Name "range" p2) [a, b, c] [] pos2] X.env = (false, eval (.Call (.Name "range" p2) [a, b, c] [] pos2) X.env) :: starEach [] X.env := by rfl) :
    DO X J S (.Call (.Name "list" p) [.Call (.Name "range" p2) [a, b, c] [] pos2] [] pos) eI (mb ma fun i => mb mb' fun j => rngDL i j) := by
  refine ⟨fun pins s σ H Q I ⟨G, own, ok, fin⟩ => ?_⟩
  refine Call_ (ld_blt I hg hm boot_list (PyProof.Rows.callWith_type1 (args_cons (Call_ (ld_blt I hg2 hm2 boot_range (PyProof.Rows.callWith_type1 (thn (ha.run pos2 pins s σ H
    (fun vs H2 => ∃ (i j : Int) (G2 : Hp), vs = [.int i, .int j, .int (-1)] ∧ OkX X J G2 H2 own σ S ∧ FinO X J eI (rngDL i j) σ G2 H2 Q) I ?_) fun us s1 ⟨vs, H1, I1, r1, q1⟩ => ?_) hs hpl))) nb) nb))
  · exact E_bind FinO.wish ok fin fun i v G1 H1 g ok1 d r => E_bind FinO.wish ok1 r fun j u G2 H2 g2 ok2 d2 r => by
      cases d
      cases d2
      exact ⟨i, j, G2, rfl, ok2, r⟩
  · obtain ⟨i, j, G2, rfl, ok2, r⟩ := q1
    unfold rngDL at r
    split at r
    · rename_i h
      simp only [okI, Bool.and_eq_true, decide_eq_true_eq] at h
      cases r1 with
      | cons ra rr =>
        cases rr with
        | cons rb rr =>
          cases rr with
          | cons rc rr =>
            cases rr
            obtain ⟨t1, rfl⟩ := ra
            obtain ⟨t2, rfl⟩ := rb
            obtain ⟨t3, rfl⟩ := rc
            refine call_range_3 (by decide) (args_nil ?_) (.inl (PyProof.noPylong_small (by decide)))
            have I2 : Inv X pins σ H1 { s1 with heap := s1.heap.push { cls := .type "range", data := .fields #[.int i t1, .int j t2, .int (-1) t3] } } := I1.kept (t' := s1.toks) fun b o e => Heap.get?_push_of_some _ e
            have hN : (i - j).toNat ≤ 2 ^ 24 := Nat.le_trans h.2 (by decide)
            refine call_list_range (n := (i - j).toNat) (I2.ok.hd hc) (IsRange.new ..) (PySem.W.small_down h.1.1.1 h.1.1.2 h.1.2.1 h.1.2.2) (PySem.W.rangeSize_downNat i j) hN fun h' tk acc c' hk e' hi => ?_
            have hq := I2.hok.fresh (Nat.le_refl _)
            refine ⟨.ref _, _, I2.laid (t' := tk) hk (Nat.le_refl _) (show ObjOk X.prog X.w _ _ _ (.lst ((rngD i j).map V.int)) from ⟨?_, acc.toList, c', ?_, ?_⟩), rfl, r _ _ G2 _ (Grow.allocO ok2.gh hq) hq upd_same (Same.free ok2.gh hq) (DenL.rngD i j)⟩
            · rw [List.length_map, rngD_len]
              exact Nat.le_trans h.2 (by decide)
            · have z := vals_down hi
              unfold rngD
              rw [List.map_map]
              exact z
            · rw [Array.toArray_toList]
              exact e'
    · exact r.elim
/-! ### reversed(xs) -/
theorem itv_ok {G : Hp} {l : Addr} {vs : List V} {xs : List α} (hq : ∀ H2 G2 : Hp, Same G G2 → Same G2 H2 → SqL X.K H2 l vs) (hd : DenL X.K J.ca G vs (xs.map enc)) : ItOk X J G (Itv X.K l vs.length) (xs.reverse.map enc) := fun i H2 G2 s0 s1 s2 => by
  have hl := hd.length
  rw [List.length_map] at hl
  refine ⟨fun d h => ?_, fun h => ?_⟩
  · have hi : i < xs.length := by
      have := (List.getElem?_eq_some_iff.mp h).1
      rwa [List.length_map, List.length_reverse] at this
    rw [List.getElem?_map, List.getElem?_reverse hi, ← List.getElem?_map] at h
    obtain ⟨x, e1, e2⟩ := hd.get h
    have q := hq H2 G2 s1 s2
    rw [← hl] at e1
    refine ⟨⟨by omega, vs, x, q, e1⟩, fun y H3 ⟨e3, e4⟩ => ⟨G2, by rw [e3]; exact Grow.refl s2, ?_⟩⟩
    have := e4 vs q
    rw [e1] at this
    cases this
    exact e2.mono s1
  · rw [List.length_map, List.length_reverse] at h
    show vs.length ≤ i
    omega
theorem i_rev {m : M (List α)} (hg : Gl X "reversed") (hm : X.mg "reversed" = none) (h : PA X [e] (tCons (tE X J S (eL enc) m) tNil)) (hs : starEach [e] X.env = [(false, eval e X.env)] := by rfl) :
    DI X J S tg (.Call (.Name "reversed" p) [e] [] pos) enc (mb m fun xs => .ok xs.reverse) :=
  pi_imp (pi_reversed hg hm h hs) fun σ H Q ⟨G, own, ok, fin⟩ => E_bind FinI.wish ok fin fun xs v G1 H1 g ok1 d r => by
    obtain ⟨l, vs, rfl, h1, h2⟩ := Den.lst' d
    exact ⟨l, vs, rfl, SqL.of (ok1.gh _ _ h1), r _ G1 H1 (Grow.refl ok1.gh) (itv_ok (fun H2 G2 s1 s2 => SqL.of (s2 _ _ (s1 _ _ h1))) h2)⟩
/-! ### sorted(set(z)), a list or a tuple -/
theorem seqI_Q : SeqI X J (eQ eI) (fun z => z.2) := fun z v G H own sg d => by
  obtain ⟨b, xs⟩ := z
  cases b with
  | true => exact seqI_T xs v G H own sg d
  | false => exact seqI_L xs v G H own sg d
theorem e_pl3 {m : M (α × α × α)} (h : DE X J S a (eP3 enc enc enc) m) : DE X J S a (eT enc) (mb m fun x => .ok [x.1, x.2.1, x.2.2]) := e_conv (fun x => [x.1, x.2.1, x.2.2]) h fun _ => rfl
/-! ### an own class, a class above it -/
theorem kit_own {K : PySem.W.Frag} {C E : Addr} {b : Bool} (h0 : PySem.W.subIn K (.ref C) (.ref C) = some true) (h1 : PySem.W.isClsIn K E = true) (h2 : PySem.W.typeIn K (.ref E) = some (.type "type")) (h3 : PySem.W.subIn K (.ref C) (.ref E) = some b) : PySem.W.kitOne K (.ref C) (.ref E) = some b := by
  unfold PySem.W.kitOne
  by_cases q : C = E
  · subst q
    rw [if_pos (beq_self_eq_true _), ← h0, h3]
  · rw [if_neg (fun z => q (Value.ref.inj (beq_iff_eq.mp z)))]
    have e : ((PySem.W.clsIn K E).isSome && PySem.W.typeIn K (.ref E) == some (.type "type")) = true := by
      have z : (PySem.W.clsIn K E).isSome = true := h1
      rw [h2, z] <;> rfl
    show (if _ = true then _ else _) = _
    rw [if_pos e]
    exact h3
theorem kit_blt {K : PySem.W.Frag} {C : Addr} {T : String} {b : Bool} (h1 : PySem.W.kitMeta T = true) (h3 : PySem.W.subIn K (.ref C) (.type T) = some b) : PySem.W.kitOne K (.ref C) (.type T) = some b := by
  unfold PySem.W.kitOne
  rw [if_neg (fun z => by cases beq_iff_eq.mp z)]
  show (if _ = true then _ else _) = _
  rw [if_pos h1]
  exact h3
end
end DL

namespace DL
open PySem PySem.Spec PyProof.Rows L2
variable {X : Cx} {J : Jx}
section
variable {α β γ ρ : Type} {S : List Sl} {enc : α → D} {tg a b c e : Expr} {es : List Expr} {pos p : Pos} {k j : Nat}
/-! ### a thing that is not None here -/
def unO : Option α → M α
  | some x => .ok x
  | none => .no
@[simp] theorem unO_some (x : α) : unO (some x) = .ok x := rfl
theorem e_unO {m : M (Option α)} (h : DE X J S a (eO enc) m) : DE X J S a enc (mb m unO) := e_enc h (by
  cases m with
  | ok y =>
    cases y with
    | some x => exact ⟨fun z hz => ⟨some x, rfl, by cases hz; rfl⟩, fun x hx => by cases hx⟩
    | none => exact ⟨fun z hz => (by cases hz), fun x hx => (by cases hx)⟩
  | er x => exact ⟨fun z hz => (by cases hz), fun y hy => (by cases hy; rfl)⟩
  | no => exact ⟨fun z hz => (by cases hz), fun y hy => (by cases hy)⟩)
end
end DL

namespace DL
open PySem PySem.Spec PyProof.Rows L2
variable {X : Cx} {J : Jx}
section
variable {α β γ ρ : Type} {S : List Sl} {enc : α → D} {enb : β → D} {enc3 : γ → D} {tg a b c e : Expr} {es : List Expr} {pos p : Pos} {k j : Nat}
/-! ### optional things: equality, isinstance -/
def pdO (pd : α → PyData) : Option α → PyData
  | none => .none
  | some x => pd x
theorem pd_opt {pd : α → PyData} {n : Nat} (h : PdE enc pd n) (h1 : ∀ x, PyData.eqv (pd x) .none = false) (h2 : ∀ x, PyData.eqv .none (pd x) = false) : PdE (eO enc) (pdO pd) (n + 1) := by
  refine ⟨fun {K ca G H v x} sg d => ?_, fun x => ?_, fun x => ?_, fun x y => ?_⟩
  · cases x with
    | none => cases d; exact .non
    | some x => exact h.dp sg d
  · cases x with
    | none => rfl
    | some x => exact h.lay x
  · cases x with
    | none => simp [pdO, PyData.depth]
    | some x => exact Nat.le_succ_of_le (h.dep x)
  · cases x with
    | none =>
      cases y with
      | none => simp [pdO, PyData.eqv]
      | some y => simp [pdO, h2]
    | some x =>
      cases y with
      | none => simp [pdO, h1]
      | some y =>
        show PyData.eqv (pd x) (pd y) = true ↔ _
        rw [h.eq]
        simp
theorem pd_P3 {pd : α → PyData} {n : Nat} {pe : β → PyData} {m : Nat} {pf : γ → PyData} {l : Nat} (h : PdE enc pd n) (h' : PdE enb pe m) (h'' : PdE enc3 pf l) : PdE (eP3 enc enb enc3) (fun p => .tuple [pd p.1, pe p.2.1, pf p.2.2]) (max n (max m l) + 1) := by
  refine ⟨fun sg d => ?_, fun x => ?_, fun x => ?_, fun x y => ?_⟩
  · cases d with
    | tup q t =>
      cases t with
      | cons t1 t =>
        cases t with
        | cons t2 t =>
          cases t with
          | cons t3 t => cases t; exact .tup (same_seqT sg q) (.cons (h.dp sg t1) (.cons (h'.dp sg t2) (.cons (h''.dp sg t3) .nil)))
  · show (PyData.canLayAll0 [pd x.1, pe x.2.1, pf x.2.2]) = true
    rw [PyData.canLayAll0, PyData.canLayAll0, PyData.canLayAll0, h.lay, h'.lay, h''.lay]; rfl
  · simp only [PyData.depth, PyData.depthAll]
    have h1 := h.dep x.1
    have h2 := h'.dep x.2.1
    have h3 := h''.dep x.2.2
    omega
  · rw [PyData.eqv, PyData.eqvAll, PyData.eqvAll, PyData.eqvAll, PyData.eqvAll, Bool.and_true, Bool.and_eq_true, Bool.and_eq_true, h.eq, h'.eq, h''.eq, Prod.ext_iff, Prod.ext_iff]
theorem DenB.tupD {G H : Hp} {own : Addr → Option Nat} {v : V} {ds : List D} (sg : Same G H) (d : DenB X J G H own v (.tup ds)) : ∃ q vs, v = .ref q ∧ SqT X.K H q vs := by
  rcases d with d | ⟨_, _, _, _, h, _⟩
  · cases d with
    | tup q t => exact ⟨_, _, rfl, same_seqT sg q⟩
  · cases h
theorem ty_P {T : String} {r : Bool} {ds : α → List D} (hd : ∀ z, enc z = .tup (ds z)) (h : kitB "tuple" T = some r) : ∀ (z : α) v G H own, Same G H → DenB X J G H own v (enc z) → ∃ t', TyX X.K H v t' ∧ PySem.W.kitOne X.K t' (.type T) = some ((fun _ => r) z) :=
  fun z v G H own sg d => by
    rw [hd z] at d
    obtain ⟨q, vs, rfl, h1⟩ := DenB.tupD sg d
    exact ⟨_, sqT_ty h1, kit_ty h⟩
theorem ty_opt {u : Value} {T : String} {r r0 : Bool} (hu : u = .type T) (h : ∀ (z : α) v G H own, Same G H → DenB X J G H own v (enc z) → ∃ t', TyX X.K H v t' ∧ PySem.W.kitOne X.K t' u = some ((fun _ => r) z)) (h0 : kitB "NoneType" T = some r0) :
    ∀ (z : Option α) v G H own, Same G H → DenB X J G H own v (eO enc z) → ∃ t', TyX X.K H v t' ∧ PySem.W.kitOne X.K t' u = some ((fun z => if z.isSome = true then r else r0) z) :=
  fun z v G H own sg d => by
    cases z with
    | some x => exact h x v G H own sg d
    | none =>
      subst hu
      rcases d with d | ⟨_, _, _, _, h, _⟩
      · cases d
        exact ⟨_, .base .non, kit_ty h0⟩
      · cases h
theorem ty_HL {T : String} {r : Bool} {ds : α → List D} (hd : ∀ z, enc z = .lst (ds z)) (h : kitB "list" T = some r) : ∀ (z : α) v G H own, Same G H → DenB X J G H own v (enc z) → ∃ t', TyX X.K H v t' ∧ PySem.W.kitOne X.K t' (.type T) = some ((fun _ => r) z) :=
  fun z v G H own sg d => by
    rw [hd z] at d
    obtain ⟨q, vs, rfl, h1, h2⟩ := DenB.list sg d
    exact ⟨_, .base (.lst h1), kit_ty h⟩
/-- len of a tuple of a written length -/
theorem e_lenP {n : Int} {ds : α → List D} {m : M α} (hd : ∀ z, enc z = .tup (ds z)) (hl : ∀ z, ((ds z).length : Int) = n) (hm : X.mg "len" = none) (h : PA X [a] (tCons (tE X J S enc m) tNil)) (hg : Gl X "len" := by rfl)
    (he : starEach (a :: []) X.env = (false, eval a X.env) :: starEach [] X.env := by rfl) (hpl : (backTo pos (starEach [] X.env)).any (·.1) = false := by rfl) : DE X J S (.Call (.Name "len" p) [a] [] pos) eI (mb m fun _ => .ok n) :=
  pe_imp (pe_callB call_len_seq hg hm PySem.boot_len h (by decide) (by decide) he hpl) fun σ H Q ⟨G, own, ok, fin⟩ => E_bind Fin.wish ok fin fun z v G1 H1 g ok1 d r => by
    rw [hd z] at d
    obtain ⟨q, vs, rfl, h1, h2⟩ := Den.tuple (X := X) ok1.gh d
    refine ⟨q, vs, rfl, .inr h1, ?_⟩
    have e := hl z
    rw [← h2.length] at e
    rw [e]
    exact r _ G1 H1 (Grow.refl ok1.gh) (.int _)
end
end DL

namespace DL
open PySem PySem.Spec PyProof.Rows L2
variable {X : Cx} {J : Jx}
/-! ### a dict of a slot's own: keys are ints, values are plain -/
structure Vd {α : Type} (enc : α → D) (vd : α → V) : Prop where
  den : ∀ {K : PySem.W.Frag} {ca : Str → Addr} {G : Hp} (z : α), Den K ca G (vd z) (enc z)
  inv : ∀ {K : PySem.W.Frag} {ca : Str → Addr} {G : Hp} {v : V} {z : α}, Den K ca G v (enc z) → v = vd z
theorem vd_int : Vd eI V.int := ⟨fun z => .int z, fun d => by cases d; rfl⟩
theorem vd_bl : Vd eB V.bl := ⟨fun z => .bl z, fun d => by cases d; rfl⟩
section
variable {α : Type}
def kvV (vd : α → V) (kvs : List (Int × α)) : List (Int × V) := kvs.map fun kv => (kv.1, vd kv.2)
def hkV (kvs : List (Int × V)) : List (Key × V) := kvs.map fun kv => (Sum.inl kv.1, kv.2)
def putA (kvs : List (Int × α)) (k : Int) (z : α) : List (Int × α) := if (kvs.any fun kv => decide (kv.1 = k)) = true then kvs.map (fun kv => if kv.1 = k then (kv.1, z) else kv) else kvs ++ [(k, z)]
def getA (kvs : List (Int × α)) (k : Int) : Option α := (kvs.find? fun kv => decide (kv.1 = k)).map (·.2)
def putM (kvs : List (Int × α)) (k : Int) (z : α) : M (List (Int × α)) := if kvs.length < line then .ok (putA kvs k z) else .no
def getM (kvs : List (Int × α)) (k : Int) : M α := match getA kvs k with
  | some z => .ok z
  | none => .no
theorem get_hk (vd : α → V) (k : Int) : ∀ kvs : List (Int × α), valV (hkV (kvV vd kvs)) (Sum.inl k) = (getA kvs k).map vd
  | [] => rfl
  | p :: r => by
    have ih := get_hk vd k r
    unfold valV getA hkV kvV at *
    rw [List.map_cons, List.map_cons, List.find?_cons, List.find?_cons]
    by_cases e : p.1 = k
    · simp [e]
    · simp only [Sum.inl.injEq, e, decide_false]
      exact ih
theorem put_hk (vd : α → V) (k : Int) (z : α) (kvs : List (Int × α)) : putK (hkV (kvV vd kvs)) (Sum.inl k) (vd z) = hkV (kvV vd (putA kvs k z)) := by
  unfold putK putA hkV kvV
  have e : (((kvs.map fun kv => (kv.1, vd kv.2)).map fun kv => ((Sum.inl kv.1 : Key), kv.2)).any fun kv => decide (kv.1 = Sum.inl k)) = kvs.any fun kv => decide (kv.1 = k) := by
    rw [List.any_map, List.any_map]
    congr 1
    funext kv
    simp
  rw [e]
  by_cases q : (kvs.any fun kv => decide (kv.1 = k)) = true
  · rw [if_pos q, if_pos q, List.map_map, List.map_map, List.map_map, List.map_map]
    refine List.map_congr_left fun kv _ => ?_
    simp only [Function.comp, Sum.inl.injEq]
    by_cases h : kv.1 = k
    · simp [h]
    · simp [h]
  · rw [if_neg q, if_neg q, List.map_append, List.map_append]
    rfl
theorem hk_len (vd : α → V) (kvs : List (Int × α)) : (hkV (kvV vd kvs)).length = kvs.length := by unfold hkV kvV; rw [List.length_map, List.length_map]
end
section
variable {α β β' γ δ ρ : Type} {S S' : List Sl} {N : β → List Sl} {L : γ → List Sl} {R : ρ → RV} {enc : α → D} {vd : α → V} {a b c e tg : Expr} {es : List Expr} {pos p : Pos} {k j : Nat} {rest body : List Stmt}
theorem Ok.fresh {G H : Hp} {own : Addr → Option Nat} {σ : L2.St} {p : Addr} (ok : OkX X J G H own σ S) (hp : H p = none) : own p = none := by
  cases h : own p with
  | none => rfl
  | some i => exact absurd hp (ok.ow p i h).2.2
/-- x = {} -/
theorem ss_dnew {m : M (Out β γ ρ)} {x : Str} {pd px : Pos} {i : Nat} (hN : X.N.Nodup) (hr : DSs X J (S.set i (.dk [])) rest N L R m) (hi : X.N[i]? = some x := by rfl) (hx : Loc X.env.scope x := by first | exact Or.inl rfl | exact Or.inr rfl)
    (hs : swapsWith (.Dict [] [] pd) (some (.Name x px)) pos.line X.env = pure false := by rfl) (hf : X.fn x = true ∨ X.env.scope.names.lookup x = some .local := by first | exact .inl rfl | exact .inr rfl) :
    DSs X J S (.Assign [.Name x px] (.Dict [] [] pd) pos :: rest) N L R m :=
  pss_imp (pss_cons (ps_set (i := i) hN hi hx pe_dnewK hs hf) hr) fun Dn σ H ⟨G, own, ok, fin⟩ => fun q hq => by
    have ok1 := ok.grow (Grow.allocO (o := .dK []) ok.gh hq)
    exact ⟨G, _, ok1.setK (kvs := []) upd_same (Same.free ok.h0 hq) (Same.free ok.gh hq) (Ok.fresh ok hq), fin⟩
/-- x[k] = e -/
theorem ss_dput {m : M α} {mi : M Int} {f : List (Int × α) → M (Out β γ ρ)} {kvs : List (Int × α)} {x : Str} {ie : Expr} {px p2 : Pos} (hv : Vd enc vd) (C : CxD X J k) (i : Nat) (hs : S[i]? = some (.dk (kvV vd kvs))) (hp : PE X (.Name x px) (tVar i)) (he : DE X J S e enc m) (hi : DE X J S ie eI mi)
    (hr : ∀ ys, DSs X J (S.set i (.dk (kvV vd ys))) rest N L R (f ys)) (hw : Wk S J.Sx)
    (hsw : swapsWith e (some (.Subscript (.Name x px) ie p2)) pos.line X.env = pure false := by rfl) :
    DSs X J S (.Assign [.Subscript (.Name x px) ie p2] e pos :: rest) N L R (mb m fun z => mb mi fun j => mb (putM kvs j z) f) :=
  pss_imp (pss_cons (ps_dput (by have := C.room.units; omega) hp hi he hsw) (pss_ex hr)) fun Dn σ H ⟨G, own, ok, fin⟩ => by
    refine E_bind (FinS.wish hw) ok ⟨fin, ok⟩ fun z v G1 H1 g1 ok1 d r => ?_
    obtain ⟨q, q1, q2, q3⟩ := ok1.sl i _ hs
    refine ⟨.ref q, q1, E_bind (FinS.wish hw) ok1 r fun y u G2 H2 g2 ok2 d2 r2 => ?_⟩
    cases d2
    have hq : H2 q = some (.dK (hkV (kvV vd kvs))) := g2.h _ _ q3
    have ev := hv.inv d
    subst ev
    have r3 := r2.1
    unfold putM at r3
    split at r3
    · rename_i hl
      refine ⟨q, _, rfl, DPut.k (k := Sum.inl y) hq (by rw [hk_len]; exact Nat.lt_of_lt_of_le hl line_le), _, G2, own, ?_, r3⟩
      rw [put_hk]
      exact ok2.mutK (kvs := kvV vd (putA kvs y z)) hq q2 q1
    · exact r3.elim
/-- x[k] -/
theorem e_dget {mi : M Int} {kvs : List (Int × α)} {x : Str} {ie : Expr} {px : Pos} (hv : Vd enc vd) (C : CxD X J k) (i : Nat) (hs : S[i]? = some (.dk (kvV vd kvs))) (hp : PE X (.Name x px) (tVar i)) (hi : DE X J S ie eI mi) (hn : NoSl ie := by intro _ _; rfl) :
    DE X J S (.Subscript (.Name x px) ie pos) enc (mb mi fun j => getM kvs j) :=
  pe_imp (pe_dget (by have := C.room.units; omega) hp hi hn) fun σ H Q ⟨G, own, ok, fin⟩ => by
    obtain ⟨q, q1, q2, q3⟩ := ok.sl i _ hs
    refine ⟨.ref q, q1, E_bind Fin.wish ok fin fun y u G2 H2 g2 ok2 d2 r2 => ?_⟩
    cases d2
    have hq : H2 q = some (.dK (hkV (kvV vd kvs))) := g2.h _ _ q3
    have dg := DGet.k (k := Sum.inl y) hq
    rw [get_hk] at dg
    unfold getM at r2
    cases hg : getA kvs y with
    | none => rw [hg] at r2; exact r2.elim
    | some z =>
      rw [hg] at r2 dg
      exact ⟨q, vd z, rfl, dg, r2 _ G2 H2 (Grow.refl ok2.gh) (hv.den z)⟩
/-- x.get(k, y) -/
theorem e_dget2 {mi : M Int} {m : M α} {kvs : List (Int × α)} {x : Str} {ie : Expr} {px ap : Pos} (hv : Vd enc vd) (C : CxD X J k) (i : Nat) (hs : S[i]? = some (.dk (kvV vd kvs))) (hp : PE X (.Name x px) (tVar i)) (hi : DE X J S ie eI mi) (he : DE X J S e enc m) (hm : M2 X (.Name x px) "get" ap ie e pos := by exact ⟨rfl, rfl, rfl, rfl⟩) :
    DE X J S (.Call (.Attribute (.Name x px) "get" ap) [ie, e] [] pos) enc (mb mi fun j => mb m fun z => .ok ((getA kvs j).getD z)) :=
  pe_imp (pe_dget2 (by have := C.room.units; omega) hp hi he hm) fun σ H Q ⟨G, own, ok, fin⟩ => by
    obtain ⟨q, q1, q2, q3⟩ := ok.sl i _ hs
    refine ⟨.ref q, q1, q, rfl, .inl ⟨_, .inl q3⟩, E_bind Fin.wish ok fin fun y u G2 H2 g2 ok2 d2 r2 => E_bind Fin.wish ok2 r2 fun z w G3 H3 g3 ok3 d3 r3 => ?_⟩
    cases d2
    have hq : H3 q = some (.dK (hkV (kvV vd kvs))) := g3.h _ _ (g2.h _ _ q3)
    have dg := DGet.k (k := Sum.inl y) hq
    rw [get_hk] at dg
    have ev := hv.inv d3
    subst ev
    refine ⟨_, dg, r3 _ G3 H3 (Grow.refl ok3.gh) ?_⟩
    cases getA kvs y with
    | none => exact hv.den z
    | some y' => exact hv.den y'
/-- k in x, k not in x -/
theorem e_din {mi : M Int} {kvs : List (Int × α)} {x : Str} {ie : Expr} {px : Pos} (C : CxD X J k) (i : Nat) (hs : S[i]? = some (.dk (kvV vd kvs))) (hp : PE X (.Name x px) (tVar i)) (hi : DE X J S ie eI mi) (hb : behindInMarks .In (.Name x px) = false := by rfl) :
    DE X J S (.Compare ie [.In] [.Name x px] pos) eB (mb mi fun j => .ok (getA kvs j).isSome) :=
  pe_imp (pe_cmp (pc_din (by have := C.room.units; omega) hi hp) hb) fun σ H Q ⟨G, own, ok, fin⟩ => E_bind Fin.wish ok fin fun y u G2 H2 g2 ok2 d2 r2 => by
    cases d2
    obtain ⟨q, q1, q2, q3⟩ := ok2.sl i _ hs
    have dg := DGet.k (k := Sum.inl y) q3
    have e := get_hk vd y kvs
    unfold hkV at e
    rw [e] at dg
    refine ⟨.ref q, q1, q, _, rfl, dg, ?_⟩
    rw [Option.isSome_map]
    exact r2 _ G2 H2 (Grow.refl ok2.gh) (.bl _)
/-- list(x): its keys -/
theorem o_dlist {kvs : List (Int × α)} {x : Str} {px : Pos} (hc : X.calm = true) (hm : X.mg "list" = none) (i : Nat) (hs : S[i]? = some (.dk (kvV vd kvs))) (hp : PE X (.Name x px) (tVar i)) (hg : Gl X "list" := by rfl)
    (he : starEach ((.Name x px) :: []) X.env = (false, eval (.Name x px) X.env) :: starEach [] X.env := by rfl) (hpl : (backTo pos (starEach [] X.env)).any (·.1) = false := by rfl) :
    DO X J S (.Call (.Name "list" p) [.Name x px] [] pos) eI (.ok (kvs.map (·.1))) :=
  pe_imp (pe_callTy (call_listD hc) hg hm boot_list (pa_cons hp pa_nil) (by decide) (by decide) he hpl) fun σ H Q ⟨G, own, ok, fin⟩ => by
    obtain ⟨q, q1, q2, q3⟩ := ok.sl i _ hs
    refine ⟨.ref q, q1, q, hkV (kvV vd kvs), rfl, .inl q3, fun l hl => ?_⟩
    refine fin l _ G _ (Grow.allocO ok.gh hl) hl upd_same (Same.free ok.gh hl) ?_
    have e : ((hkV (kvV vd kvs)).map fun kv => kV kv.1) = (kvs.map (·.1)).map V.int := by
      unfold hkV kvV
      rw [List.map_map, List.map_map, List.map_map]
      rfl
    rw [e]
    exact DL.DenL.of_ints _
/-- x = dict(pairs) -/
def mergeA (kvs : List (Int × α)) : List (Int × α) := kvs.foldl (fun acc kv => putA acc kv.1 kv.2) []
theorem merge_hk (vd : α → V) : ∀ (kvs acc : List (Int × α)), mergeK (hkV (kvV vd acc)) (hkV (kvV vd kvs)) = hkV (kvV vd (kvs.foldl (fun acc kv => putA acc kv.1 kv.2) acc))
  | [], acc => rfl
  | kv :: kvs, acc => by
    have ih := merge_hk vd kvs (putA acc kv.1 kv.2)
    unfold mergeK at *
    rw [List.foldl_cons, ← ih, ← put_hk]
    rfl
theorem pairs_of {G H : Hp} (sg : Same G H) (hv : Vd enc vd) : ∀ {kvs : List (Int × α)} {vs : List V}, DenL X.K J.ca G vs (kvs.map (eP2 eI enc)) → ∃ ps : List Addr, vs = ps.map V.ref ∧ Paired (fun p (kv : Key × V) => SqT X.K H p [kV kv.1, kv.2]) ps (hkV (kvV vd kvs))
  | [], _, h => by cases h; exact ⟨[], rfl, .nil⟩
  | kv :: kvs, _, h => by
    cases h with
    | cons h1 h2 =>
      obtain ⟨ps, e, pr⟩ := pairs_of sg hv h2
      cases h1 with
      | tup q t =>
        cases t with
        | cons t1 t =>
          cases t with
          | cons t2 t =>
            cases t
            cases t1
            have ev := hv.inv t2
            subst ev
            subst e
            exact ⟨_ :: ps, rfl, .cons (same_seqT sg q) pr⟩
theorem ss_ddict {m : M (List (Int × α))} {f : List (Int × α) → M (Out β γ ρ)} {x : Str} {px p2 cp : Pos} {i : Nat} (hv : Vd enc vd) (hc : X.calm = true) (hN : X.N.Nodup) (hm : X.mg "dict" = none) (h : PA X [a] (tCons (tEb X J S (eL (eP2 eI enc)) m) tNil)) (hr : ∀ ys, DSs X J (S.set i (.dk (kvV vd ys))) rest N L R (f ys)) (hw : Wk S J.Sx)
    (hi : X.N[i]? = some x := by rfl) (hx : Loc X.env.scope x := by first | exact Or.inl rfl | exact Or.inr rfl) (hg : Gl X "dict" := by rfl)
    (he : starEach (a :: []) X.env = (false, eval a X.env) :: starEach [] X.env := by rfl) (hpl : (backTo cp (starEach [] X.env)).any (·.1) = false := by rfl)
    (hs : swapsWith (.Call (.Name "dict" p2) [a] [] cp) (some (.Name x px)) pos.line X.env = pure false := by rfl) (hf : X.fn x = true ∨ X.env.scope.names.lookup x = some .local := by first | exact .inl rfl | exact .inr rfl) :
    DSs X J S (.Assign [.Name x px] (.Call (.Name "dict" p2) [a] [] cp) pos :: rest) N L R (mb m fun z => f (mergeA z)) :=
  pss_imp (pss_cons (ps_set (i := i) hN hi hx (pe_callTy (call_dictP hc) hg hm (by decide +kernel) h (by decide) (by decide) he hpl) hs hf) (pss_ex hr)) fun Dn σ H ⟨G, own, ok, fin⟩ => by
    refine B_bind (FinS.wish hw) ok ⟨fin, ok⟩ fun z v G1 H1 g ok1 d r => ?_
    obtain ⟨q, vs, rfl, h1, h2⟩ := DenB.list ok1.gh d
    obtain ⟨ps, e, pr⟩ := pairs_of ok1.gh hv h2
    subst e
    refine ⟨q, ps, _, rfl, SqL.of h1, pr, fun l hl => ?_⟩
    have ok2 := ok1.grow (Grow.allocO (o := .dK (mergeK [] (hkV (kvV vd z)))) ok1.gh hl)
    have hm2 : mergeK [] (hkV (kvV vd z)) = hkV (kvV vd (mergeA z)) := merge_hk vd z []
    rw [hm2] at ok2 ⊢
    exact ⟨mergeA z, G1, _, ok2.setK (kvs := kvV vd (mergeA z)) upd_same (Same.free ok1.h0 hl) (Same.free ok1.gh hl) (Ok.fresh ok1 hl), r.1⟩
end
end DL

namespace DL
open PySem PySem.Spec PyProof.Rows L2
/-! ### zip of two sequences, each a list (false) or a tuple (true) -/
def itB (t : Bool) (h : Heap) (it l : Addr) (i : Nat) : Prop := if t = true then h.IsTupleIter it l i else h.IsListIter it l i
def sqB (t : Bool) (h : Heap) (l : Addr) (its : Array Value) : Prop := if t = true then h.IsTuple l its else h.IsList l its
def seqB (t : Bool) (K : PySem.W.Frag) (H : Hp) (a : Addr) (vs : List V) : Prop := if t = true then SqT K H a vs else SqL K H a vs
def obB (t : Bool) (l : Addr) : Obj := { cls := .type (if t = true then "tuple_iterator" else "list_iterator"), data := .fields #[.ref l, .int 0 0] }
theorem itB_at {t : Bool} {h h' : Heap} {it l : Addr} {i : Nat} (x : itB t h it l i) (k : ∀ o, h.get? it = some o → h'.get? it = some o) : itB t h' it l i := by
  cases t
  · exact Heap.IsListIter.at x k
  · exact Heap.IsTupleIter.at x k
theorem itB_obj {t : Bool} {h : Heap} {it l : Addr} {i : Nat} (x : itB t h it l i) : ∃ o, h.get? it = some o ∧ ∀ v, o.data ≠ .cell v := by
  cases t <;> (obtain ⟨o, e, _, d⟩ := x; exact ⟨o, e, fun v q => by rw [d] at q; cases q⟩)
theorem itB_new {t : Bool} {h : Heap} {it l : Addr} (e : h.get? it = some (obB t l)) : itB t h it l 0 := by
  cases t
  · exact ⟨_, e, rfl, rfl⟩
  · exact ⟨_, e, rfl, rfl⟩
theorem drawsB {prog : Program} {w : World} {A : Around} (t : Bool) (hh : A.handled = none) (it l : Addr) (hne : l ≠ it) (items : Array Value) :
    Draws prog w A it [it, l] items.size (fun i v => items[i]? = some v) (fun i h => itB t h it l i ∧ sqB t h l items) := by
  cases t
  · exact Draws.list hh it l hne items
  · exact Draws.tuple hh it l hne items
theorem beginsB (t : Bool) (l : Addr) (items : Array Value) : Begins (.ref l) (obB t l) fun h => sqB t h l items := by
  cases t
  · exact begins_list l items
  · exact begins_tuple l items
theorem invB {X : Cx} {pins : List (Addr × Obj)} {σ : L2.St} {H : Hp} {s : Shared} (t : Bool) {a : Addr} {xs : List V} (I : Inv X pins σ H s) (h : seqB t X.K H a xs) :
    ∃ its : List Value, Vals xs its ∧ sqB t s.heap a its.toArray ∧ a < s.heap.objs.size := by
  cases t
  · obtain ⟨its, r, p, _⟩ := I.list h
    exact ⟨its, r, p.isList, p.lt⟩
  · obtain ⟨its, r, p, _⟩ := I.tuple h
    refine ⟨its, r, p, ?_⟩
    obtain ⟨o, e, _⟩ := id p
    exact Heap.lt_size e
theorem injB {X : Cx} {pins : List (Addr × Obj)} {σ : L2.St} {H : Hp} {s : Shared} (t : Bool) {a : Addr} {xs ys : List V} (I : Inv X pins σ H s) (h : seqB t X.K H a xs) (h' : seqB t X.K H a ys) : xs = ys := by
  cases t
  · exact I.list_inj h h'
  · exact I.tuple_inj h h'
def ItzG (t1 t2 : Bool) (n : Nat) (K : PySem.W.Frag) (a b : Addr) : It :=
  ⟨fun i H => i < n ∧ ∃ (xs ys : List V) (x y : V), seqB t1 K H a xs ∧ seqB t2 K H b ys ∧ xs[i]? = some x ∧ ys[i]? = some y,
    fun i H v H' => ∃ T x y, v = .ref T ∧ H T = none ∧ H' = upd H T (.tup [x, y]) ∧ (∀ xs, seqB t1 K H a xs → xs[i]? = some x) ∧ ∀ ys, seqB t2 K H b ys → ys[i]? = some y,
    fun i H => n ≤ i ∧ ∃ xs ys : List V, seqB t1 K H a xs ∧ seqB t2 K H b ys ∧ min xs.length ys.length = n⟩
theorem turn_zipG {P : Program} {w : World} {K : PySem.W.Frag} {elts : List Expr} {kk n : Nat} {tpos : Pos} (t1 t2 : Bool) {a b z TI TO i1 i2 : Addr} (D : ZipSep2 z TI TO i1 i2 [i1, a] [i2, b]) (ha : a ≠ i1) (hb : b ≠ i2) :
    Turn P w K (.Tuple elts kk tpos) (ItzG t1 t2 n K a b) [z, TI, TO, i1, i2] z (fun i h => i ≤ n ∧ IsZip h z TI TO .none ∧ IsTupOf2 h TI (.ref i1) (.ref i2) ∧ (∃ x y, IsTupOf2 h TO x y) ∧ itB t1 h i1 a i ∧ itB t2 h i2 b i) where
  mem := List.mem_cons_self
  obj := fun i h st c hc => by
    obtain ⟨_, hz, hTI, ⟨x, y, hTO⟩, h1, h2⟩ := st
    simp only [List.mem_cons, List.not_mem_nil, or_false] at hc
    rcases hc with rfl | rfl | rfl | rfl | rfl
    · exact ⟨_, hz, fun v q => nomatch q⟩
    · exact ⟨_, hTI, fun v q => nomatch q⟩
    · exact ⟨_, hTO, fun v q => nomatch q⟩
    · exact itB_obj h1
    · exact itB_obj h2
  keep := fun i h h' st k => by
    obtain ⟨hl, hz, hTI, ⟨x, y, hTO⟩, h1, h2⟩ := st
    exact ⟨hl, k z (by simp) _ hz, k TI (by simp) _ hTI, ⟨x, y, k TO (by simp) _ hTO⟩, itB_at h1 fun o q => k i1 (by simp) o q, itB_at h2 fun o q => k i2 (by simp) o q⟩
  item := by
    intro X hP hw hK hc i pins s σ H E I hf st hg
    subst hP hw hK
    obtain ⟨hl, hz, hTI, hTO, h1, h2⟩ := st
    obtain ⟨hlt, xs, ys, x, y, hqx, hqy, hx, hy⟩ := hg
    obtain ⟨its, rv, p, _⟩ := invB t1 I hqx
    obtain ⟨its2, rv2, p2, _⟩ := invB t2 I hqy
    obtain ⟨u, hu, ru⟩ := rv.get hx
    obtain ⟨u2, hu2, ru2⟩ := rv2.get hy
    have W := WalksT.zipD2 (prog := X.prog) (w := X.w) (A := X.A) D (drawsB t1 (A := X.A.in1) (I.ok.hd hc) i1 a ha its.toArray) (drawsB t2 (A := X.A.in1) (I.ok.hd hc) i2 b hb its2.toArray)
    have hi : i < min its.toArray.size its2.toArray.size := by
      have q1 := (List.getElem?_eq_some_iff.mp hu).1
      have q2 := (List.getElem?_eq_some_iff.mp hu2).1
      simp only [List.size_toArray]
      omega
    refine W.item i s _ _ hi ⟨hz, hTI, hTO, ⟨h1, p⟩, ⟨h2, p2⟩⟩ fun T vals h' tk hP hT hIs hM hk => ?_
    obtain ⟨x1, x2, e1, e2, rfl⟩ := hP
    have e1' : x1 = u := by simpa [hu] using e1.symm
    have e2' : x2 = u2 := by simpa [hu2] using e2.symm
    subst e1' e2'
    refine ⟨_, rfl, W.go elts kk tpos i T { s with heap := h', toks := tk } _ _ hM fun h'' st'' hk2 => ?_⟩
    have hTw := W.apart i T h' hM
    have hIs2 : h''.IsTuple T #[x1, x2] := hIs.at fun o e => hk2 T o hTw e
    have new : ObjOk X.prog X.w (upd H T (.tup [x, y])) h'' T (.tup [x, y]) := ⟨by show 2 ≤ sizeLine; decide, [x1, x2], .cons ru (.cons ru2 .nil), hIs2⟩
    have kk2 : ∀ b o, b ∉ [z, TI, TO, i1, i2] → s.heap.get? b = some o → h''.get? b = some o := fun c o hc e => by
      have hc' : c ∉ [z, TO, i1, i2] := fun q => hc (by
        simp only [List.mem_cons, List.not_mem_nil, or_false] at q ⊢
        rcases q with q | q | q | q <;> simp [q])
      exact hk2 c o hc' (hk c o hc' e)
    have I1 : Inv X pins σ (upd H T (.tup [x, y])) { s with heap := h'', toks := tk } := I.turnedNew kk2 hf hT new
    obtain ⟨z2, TI2, TO2, ⟨h12, _⟩, h22, _⟩ := st''
    refine ⟨.ref T, _, I1, rfl, ⟨T, x, y, rfl, I.hok.fresh hT, rfl, fun l hq => by rw [injB t1 I hq hqx]; exact hx, fun l hq => by rw [injB t2 I hq hqy]; exact hy⟩, ⟨hlt, z2, TI2, TO2, h12, h22⟩, fun c hcm => ?_⟩
    have hne : c ≠ T := fun q => by
      subst q
      simp only [List.mem_cons, List.not_mem_nil, or_false] at hcm hTw
      rcases hcm with q | q | q | q | q
      · exact hTw (.inl q)
      · have := Heap.lt_size hTI
        rw [← q] at this
        exact absurd this (Nat.not_lt.mpr hT)
      · exact hTw (.inr (.inl q))
      · exact hTw (.inr (.inr (.inl q)))
      · exact hTw (.inr (.inr (.inr q)))
    rw [upd_ne hne]
    exact (hf c hcm).1
  done := by
    intro X hP hw hK hc i pins s σ H E I hf st hg
    subst hP hw hK
    obtain ⟨hl, hz, hTI, hTO, h1, h2⟩ := st
    obtain ⟨hge, xs, ys, hqx, hqy, hn⟩ := hg
    obtain ⟨its, rv, p, _⟩ := invB t1 I hqx
    obtain ⟨its2, rv2, p2, _⟩ := invB t2 I hqy
    have W := WalksT.zipD2 (prog := X.prog) (w := X.w) (A := X.A) D (drawsB t1 (A := X.A.in1) (I.ok.hd hc) i1 a ha its.toArray) (drawsB t2 (A := X.A.in1) (I.ok.hd hc) i2 b hb its2.toArray)
    have hi : i = min its.toArray.size its2.toArray.size := by
      have q1 := rv.length
      have q2 := rv2.length
      simp only [List.size_toArray]
      omega
    subst hi
    refine W.done s _ _ ⟨hz, hTI, hTO, ⟨h1, p⟩, ⟨h2, p2⟩⟩ fun h' tk hk => ⟨rfl, I.turnedL (ch := [z, TI, TO, i1, i2]) (fun c o hc e => ?_) hf⟩
    exact hk c o (fun q => hc (by
      simp only [List.mem_cons, List.not_mem_nil, or_false] at q ⊢
      rcases q with q | q | q | q <;> simp [q])) e
  self := fun A i s Q E st h => wpAny_pyIter_zip st.2.1 h
def iZipG (t1 t2 : Bool) (K : PySem.W.Frag) (ta : TA) : TI := fun σ H R => ta σ H fun vs H1 => ∃ a b xs ys, vs = [.ref a, .ref b] ∧ seqB t1 K H1 a xs ∧ seqB t2 K H1 b ys ∧ R (ItzG t1 t2 (min xs.length ys.length) K a b) H1
theorem pi_zipG {X : Cx} {e e2 : Expr} {ta : TA} {p pos tpos : Pos} {elts : List Expr} {kk : Nat} (t1 t2 : Bool) (hg : Gl X "zip") (hm : X.mg "zip" = none) (ha : PA X [e, e2] ta)
    (hs : starEach [e, e2] X.env = (false, eval e X.env) :: starEach [e2] X.env := by rfl) (hpl : (backTo pos (starEach [e2] X.env)).any (·.1) = false := by rfl) :
    PI X (.Tuple elts kk tpos) (.Call (.Name "zip" p) [e, e2] [] pos) (iZipG t1 t2 X.K ta) := ⟨fun pins s σ H R I h => by
  refine Call_ (ld_blt I hg hm boot_zip (callWith_type1 (thn (ha.run pos pins s σ H _ I h) fun us s1 ⟨vs, H1, I1, r1, q1⟩ => ?_) hs hpl))
  obtain ⟨a, b, xs, ys, rfl, hqx, hqy, q⟩ := q1
  obtain ⟨u1, u2, rfl, r1, r2⟩ : ∃ u1 u2, us = [u1, u2] ∧ RelV (.ref a) u1 ∧ RelV (.ref b) u2 := by
    cases r1 with
    | cons r rr =>
      cases rr with
      | cons r' rr =>
        cases rr
        exact ⟨_, _, rfl, r, r'⟩
  have e1 : u1 = .ref a := r1
  have e2 : u2 = .ref b := r2
  subst e1 e2
  obtain ⟨its, rv, p1, la⟩ := invB t1 I1 hqx
  obtain ⟨its2, rv2, p2, lb⟩ := invB t2 I1 hqy
  refine zip_begins2 (beginsB t1 a its.toArray) (beginsB t2 b its2.toArray) p1 p2 fun h' hz hTI hTO g1 g2 hsz hk => wpAny_pyIter_zip hz ?_
  refine ⟨_, _, _, _, H1, rfl, I1.kept (t' := s1.toks) hk, turn_zipG t1 t2 (zip_sep2 (N := s1.heap.objs.size) (fp1 := [a]) (fp2 := [b]) (by simpa using la) (by simpa using lb)) (Nat.ne_of_lt la) (Nat.ne_of_lt (Nat.lt_succ_of_lt lb)), ⟨Nat.zero_le _, hz, hTI, ⟨_, _, hTO⟩, itB_new g1, itB_new g2⟩, fun c hc => ?_, q⟩
  have hle : s1.heap.objs.size ≤ c := by
    simp only [List.mem_cons, List.not_mem_nil, or_false] at hc
    rcases hc with rfl | rfl | rfl | rfl | rfl <;> first | exact Nat.le_add_right _ _ | exact Nat.le_refl _
  exact I1.fpOk hle (I1.hok.fresh hle)⟩
variable {X : Cx} {J : Jx}
section
variable {α β κ ι : Type} {S : List Sl} {enc : α → D} {enb : β → D} {enk : κ → D} {enl : ι → D} {tg a b c e e2 : Expr} {es : List Expr} {pos p tpos : Pos} {k j kk : Nat}
/-- a frozen value that is a sequence of this sort -/
def SqE (X : Cx) (J : Jx) (t : Bool) (enk : κ → D) (enc : α → D) (g : κ → List α) : Prop := ∀ z v G, Den X.K J.ca G v (enk z) → ∃ a vs, v = .ref a ∧ (∀ H, Same G H → seqB t X.K H a vs) ∧ DenL X.K J.ca G vs ((g z).map enc)
theorem sqE_L : SqE X J false (eL enc) enc (fun z => z) := fun z v G d => by
  obtain ⟨a, vs, rfl, h1, h2⟩ := Den.lst' d
  exact ⟨a, vs, rfl, fun H e => SqL.of (e _ _ h1), h2⟩
theorem sqE_T : SqE X J true (eT enc) enc (fun z => z) := fun z v G d => by
  obtain ⟨a, vs, rfl, h1, h2⟩ := Den.tup' d
  exact ⟨a, vs, rfl, fun H e => same_seqT e h1, h2⟩
theorem i_zip {t1 t2 : Bool} {g1 : κ → List α} {g2 : ι → List β} {es : List Expr} {m : M κ} {n : M ι} (q1 : SqE X J t1 enk enc g1) (q2 : SqE X J t2 enl enb g2) (hg : Gl X "zip") (hm : X.mg "zip" = none) (ha : PA X [e, e2] (tCons (tE X J S enk m) (tCons (tE X J S enl n) tNil)))
    (hs : starEach [e, e2] X.env = (false, eval e X.env) :: starEach [e2] X.env := by rfl) (hpl : (backTo pos (starEach [e2] X.env)).any (·.1) = false := by rfl) :
    DI X J S (.Tuple es kk tpos) (.Call (.Name "zip" p) [e, e2] [] pos) (eP2 enc enb) (mb m fun x => mb n fun y => .ok ((g1 x).zip (g2 y))) :=
  pi_imp (pi_zipG t1 t2 hg hm ha hs hpl) fun σ H Q ⟨G, own, ok, fin⟩ => E_bind FinI.wish ok fin fun x v G1 H1 gr1 ok1 d r => E_bind FinI.wish ok1 r fun y u G2 H2 gr2 ok2 d2 r2 => by
    obtain ⟨a, xs, rfl, s1, l1⟩ := q1 x v G2 (d.mono gr2.g)
    obtain ⟨b, ys, rfl, s2, l2⟩ := q2 y u G2 d2
    have n1 := l1.length
    have n2 := l2.length
    rw [List.length_map] at n1 n2
    refine ⟨a, b, xs, ys, rfl, s1 _ ok2.gh, s2 _ ok2.gh, r2 _ G2 H2 (Grow.refl ok2.gh) fun i H3 G3 h0 h1 h2 => ⟨fun dd hd => ?_, fun hl => ?_⟩⟩
    · obtain ⟨hlt, ed⟩ := List.getElem?_eq_some_iff.mp hd
      rw [List.length_map, List.length_zip] at hlt
      have hx : i < (g1 x).length := by omega
      have hy : i < (g2 y).length := by omega
      have ed2 : dd = eP2 enc enb ((g1 x)[i], (g2 y)[i]) := by
        rw [← ed, List.getElem_map, List.getElem_zip]
      obtain ⟨w1, f1, f2⟩ := l1.get (i := i) (d := enc (g1 x)[i]) (by rw [List.getElem?_map, List.getElem?_eq_getElem hx]; rfl)
      obtain ⟨w2, f3, f4⟩ := l2.get (i := i) (d := enb (g2 y)[i]) (by rw [List.getElem?_map, List.getElem?_eq_getElem hy]; rfl)
      have p1 := s1 H3 (fun b o e => h2 _ _ (h1 _ _ e))
      have p2 := s2 H3 (fun b o e => h2 _ _ (h1 _ _ e))
      refine ⟨⟨by omega, xs, ys, w1, w2, p1, p2, f1, f3⟩, fun z H4 ⟨T, x', y', e1, e2, e3, e4, e5⟩ => ?_⟩
      subst e1 e3
      have e6 := e4 xs p1
      have e7 := e5 ys p2
      rw [f1] at e6; cases e6
      rw [f3] at e7; cases e7
      refine ⟨_, Grow.alloc h2 e2, ?_⟩
      rw [ed2]
      have sg := same_upd (o := .tup [w1, w2]) (Same.free h2 e2)
      exact .tup (.of upd_same) (.cons ((f2.mono h1).mono sg) (.cons ((f4.mono h1).mono sg) .nil))
    · rw [List.length_map, List.length_zip] at hl
      exact ⟨by omega, xs, ys, s1 H3 (fun b o e => h2 _ _ (h1 _ _ e)), s2 H3 (fun b o e => h2 _ _ (h1 _ _ e)), rfl⟩
/-! ### comprehensions over several names -/
theorem wipe_get (τ : L2.St) (us : List Nat) (m : Nat) : (L2.wipe τ us)[m]? = if m ∈ us then (if m < τ.length then some none else none) else τ[m]? := by
  induction us with
  | nil => simp [L2.wipe]
  | cons u us ih =>
    unfold L2.wipe
    by_cases hm : u = m
    · subst hm
      by_cases hl : u < τ.length
      · rw [List.getElem?_set_self (by rw [wipe_length]; exact hl)]; simp [hl]
      · rw [List.getElem?_eq_none (by rw [List.length_set, wipe_length]; omega)]; simp [hl]
    · rw [List.getElem?_set_ne hm, ih]
      simp [Ne.symm hm]
theorem wipe_set2 {σ : L2.St} {i : Nat} {v : Option V} {vs : List Nat} (h : i ∈ vs) : L2.wipe (σ.set i v) vs = L2.wipe σ vs := by
  apply List.ext_getElem?
  intro m
  rw [wipe_get, wipe_get]
  by_cases hm : m ∈ vs
  · simp [hm]
  · have : i ≠ m := fun e => hm (e ▸ h)
    rw [if_neg hm, if_neg hm, List.getElem?_set_ne this]
def GsC (X : Cx) (J : Jx) (encs : β → List D) (T : β → List Sl → List Sl) (vs : List Nat) (t : TGs) : Prop := ∀ (x : β) (us : List V) (G H : Hp) (own : Addr → Option Nat) (σ σ0 : L2.St) (S : List Sl) (Q : L2.St → Hp → Prop), Ok X.K J.ca J.B G H own σ S → L2.wipe σ vs = σ0 → DenL X.K J.ca G us (encs x) →
  (∀ σ' own', Ok X.K J.ca J.B G H own' σ' (T x S) → L2.wipe σ' vs = σ0 → own' = own → Q σ' H) → t us σ H Q
theorem gsc_nil {vs : List Nat} : GsC X J (fun _ : β => []) (fun _ S => S) vs gNil := fun x us G H own σ σ0 S Q ok hw d q => by cases d; exact ⟨rfl, q σ own ok hw rfl⟩
theorem gsc_cons {d : β → D} {encs : β → List D} {T : β → List Sl → List Sl} {i : Nat} {vs : List Nat} {t : TGs} (h : i ∈ vs) (h2 : GsC X J encs T vs t) : GsC X J (fun z => d z :: encs z) (fun z S => T z (S.set i (.fr (d z)))) vs (gCons (gName i) t) := fun x us G H own σ σ0 S Q ok hw den q => by
  cases den with
  | cons d1 d2 => exact ⟨_, _, rfl, h2 x _ G H own _ σ0 _ Q (ok.setF d1) ((wipe_set2 h).trans hw) d2 q⟩
theorem wipe_wipe (σ : L2.St) (vs : List Nat) : L2.wipe (L2.wipe σ vs) vs = L2.wipe σ vs := by
  apply List.ext_getElem?
  intro m
  rw [wipe_get, wipe_get, wipe_length]
  by_cases hm : m ∈ vs
  · simp [hm]
  · rw [if_neg hm, if_neg hm]
theorem gs_tupC {encs : α → List D} {T : α → List Sl → List Sl} {n : Nat} {vs : List Nat} {t : TGs} (h : GsC X J encs T vs t) (he : ∀ z, enc z = .tup (encs z)) (hl : ∀ z, (encs z).length = n) : GSem X J enc T vs (gTup X.K n t) := fun x v G H own σ S Q ok d q => by
  rw [he x] at d
  obtain ⟨a, us, rfl, h1, h2⟩ := Den.tup' (X := X) d
  exact ⟨a, us, rfl, same_seqT ok.gh h1, by rw [h2.length, hl], h x us G H own _ _ S Q ok (wipe_wipe σ vs) h2 q⟩
theorem pg_tupB {N' : Nat} {t : TGs} {s : Shared} {H : Hp} {scope : Scope} {cenv : Env} {fp : List Addr} (hc : X.calm = true) (h : PGs (X.blk s H scope cenv fp) es t) (hn : (assignEach es (X.blk s H scope cenv fp).env).length = N' := by rfl) (hst : (assignEach es (X.blk s H scope cenv fp).env).findIdx? (·.1) = none := by rfl) :
    PG (X.blk s H scope cenv fp) (.Tuple es kk pos) (gTup X.K N' t) := pg_tup hc h hn hst
end
section
variable {α β β' γ δ ρ : Type} {S S' : List Sl} {N : β → List Sl} {L : γ → List Sl} {R : ρ → RV} {enc : α → D} {vd : α → V} {a b c e tg : Expr} {es : List Expr} {pos p : Pos} {k j : Nat} {rest body : List Stmt}
theorem ss_dnewV (vd : α → V) {m : M (Out β γ ρ)} {x : Str} {pd px : Pos} {i : Nat} (hN : X.N.Nodup) (hr : DSs X J (S.set i (.dk (kvV vd ([] : List (Int × α))))) rest N L R m) (hi : X.N[i]? = some x := by rfl) (hx : Loc X.env.scope x := by first | exact Or.inl rfl | exact Or.inr rfl)
    (hs : swapsWith (.Dict [] [] pd) (some (.Name x px)) pos.line X.env = pure false := by rfl) (hf : X.fn x = true ∨ X.env.scope.names.lookup x = some .local := by first | exact .inl rfl | exact .inr rfl) :
    DSs X J S (.Assign [.Name x px] (.Dict [] [] pd) pos :: rest) N L R m := ss_dnew hN hr hi hx hs hf
end
end DL

namespace DL
open PySem PySem.Spec PyProof.Rows L2
/-! ### sorted(set(xs)), any number of members below the scan's bound -/
theorem up_of {l : List Int} (h : l.Pairwise (· ≤ ·)) (d : l.Nodup) : l.Pairwise (· < ·) := by
  have q := List.Pairwise.and h d
  exact q.imp fun ⟨a, b⟩ => Int.lt_iff_le_and_ne.mpr ⟨a, b⟩
section
variable {P : Program} {w : World} {A : Around} {E : Value → Shared → Prop} {s : Shared}
theorem sort_setA {a : Addr} {S : Int → Bool} {n : Nat} {Q : Value → Shared → Prop} (R : SetR w s.heap a S n) (hh : A.handled = none)
    (hQ : ∀ s' (out : List Value) (c : Nat) (p : Addr) (ns : List Int), s'.heap.get? p = some (seqObj "list" out.toArray c) ∧ s.heap.objs.size ≤ p ∧ s'.gens = s.gens ∧ s'.os = s.os ∧ (∀ b o, s.heap.get? b = some o → s'.heap.get? b = some o) →
      IntsAre out ns ∧ out.length ≤ sizeLine → ns.Pairwise (· < ·) → (∀ k, k ∈ ns ↔ S k = true) → Q (.ref p) s') :
    wpAny (model P w) A (call (.builtin "sorted") [.ref a]) Q E s := by
  obtain ⟨o, es, ep, t, q1, q2, q3, q4, q5, q6, q7, q8, q9, q10, q11⟩ := R
  have hsa : SetAt s.heap a es ep t := ⟨o, q1, q2.1, q3⟩
  refine Calls.call_function_entry kind_sorted plain_sorted entry_sorted (args_sorted1 _) ?_
  unfold Builtin.«sorted»
  refine wpAny_bind (m := checkCount "sorted" 1 1 _) (wpAny_pure (wpAny_bind (collect_set (A := A.in1) hh hsa q8 q7 q10 q11 fun s1 vs kept big gens os perm => ?_)))
  -- what came out of the set: ints, each once
  have hints : ∀ v ∈ vs, ∃ k tk, v = Value.int k tk := fun v hv => by
    obtain ⟨e, he, rfl⟩ := List.mem_map.mp (perm.mem_iff.mp hv)
    obtain ⟨k, tk, z, _⟩ := q4 e he
    exact ⟨k, tk, z⟩
  have hI := ints_of vs hints
  have hkeys : (vs.map Builtin.Re.reRawOf).Perm (es.toList.map keyOf) := by
    have z := perm.map Builtin.Re.reRawOf
    rwa [List.map_map] at z
  have hz : vs.length ≤ sizeLine := by
    have z : vs.length = es.size := by
      have z := perm.length_eq
      simpa using z
    rw [z]
    exact fits_of_scanBound q7
  refine wpAny_bind (wpAny_newList ?_ hz)
  have hnew : (s1.heap.push (seqObj "list" vs.toArray 0)).get? s1.heap.objs.size = some (seqObj "list" vs.toArray 0) := Heap.get?_push_size _ rfl
  refine wpAny_bind (wpAny_holding (wpAny_call_entry slot_list_sort ⟨_, hnew, rfl⟩ entry_list_sort (SrtO.list_sort_ord SrtO.swo_int hnew hz (fun h2 => SrtO.ints_sortable hI h2) fun out hs hb => ⟨_, rfl, wpAny_pure ⟨_, rfl, ?_⟩⟩) (args_list_sort _)))
  obtain ⟨k1, k2, k3⟩ := SrtO.ints_out hI hs hb
  obtain ⟨c, hc⟩ := sortedHeap_at (vs := vs) (out := out.toArray) hnew
  have pn := k2.trans hkeys
  refine hQ _ out c _ _ ⟨hc, big, gens, os, fun b u e => ?_⟩ ⟨k1, ?_⟩ (up_of k3 (pn.nodup_iff.mpr q5)) fun k => by rw [pn.mem_iff, ← q6 k]
  · have hb1 := Heap.lt_size (kept b u e)
    refine (sortedHeap_old (Nat.ne_of_lt hb1) ?_).trans (Heap.get?_push_of_some _ (kept b u e))
    rw [Heap.size_push]
    exact Nat.lt_succ_of_lt hb1
  · rw [hb.perm.length_eq]
    exact hz
end
variable {X : Cx} {J : Jx}
theorem cr_sortedA (hc : X.calm = true) : CallR X (.builtin "sorted") (fun vs H Q => ∃ (a : Addr) (S : Int → Bool) (n : Nat), vs = [V.ref a] ∧ H a = some (SetO X.w a S n) ∧
    ∀ (ns : List Int) (p : Addr), ns.Pairwise (· < ·) → (∀ k : Int, k ∈ ns ↔ S k = true) → H p = none → Q (.ref p) (upd H p (.lst (ns.map V.int)))) := by
  intro pins s σ H vs us Q I r h
  obtain ⟨a, S, n, rfl, ha, q⟩ := h
  rw [Vals.ref1 r]
  refine sort_setA (setO_get I ha) (I.ok.hd hc) fun s' out c p ns ⟨hg, hp, g, o, k⟩ ⟨hi, hz⟩ hs hm => ?_
  have hn : H p = none := I.hok.fresh hp
  have hl : (ns.map V.int).length ≤ sizeLine := by
    have z := (vals_of_ints hi).length
    omega
  have I2 : Inv X pins σ (upd H p (.lst (ns.map V.int))) { s with heap := s'.heap, gens := s'.gens, drawn := s'.drawn, toks := s'.toks } :=
    I.call (ch := []) (Un.laid k hp hn) (I.hok.laid k hp ⟨hl, out, c, vals_of_ints hi, hg⟩) (by rw [g]; exact I.bare) (fun _ z => nomatch z)
  have e : s' = { s with heap := s'.heap, gens := s'.gens, drawn := s'.drawn, toks := s'.toks } := by
    obtain ⟨_, _, _, _, _⟩ := s'
    obtain ⟨_, _, _, _, _⟩ := s
    cases o
    rfl
  rw [e]
  exact ⟨.ref p, _, I2, rfl, q ns p hs hm hn⟩
/-- sorted(set(xs)), fewer than 500 items -/
def sortSetB (xs : List Int) : M (List Int) := if xs.length < 500 then .ok (usort xs) else .no
theorem o_sortSetB {S : List Sl} {a : Expr} {pos p : Pos} {α : Type} {enc : α → D} {f : α → List Int} {m : M α} {p2 q2 : Pos} (hc : X.calm = true) (hm : X.mg "sorted" = none) (hm2 : X.mg "set" = none) (hq : SeqI X J enc f) (h : PA X [a] (tCons (tEb X J S enc m) tNil)) (hg : Gl X "sorted" := by rfl) (hg2 : Gl X "set" := by rfl)
    (he2 : starEach (a :: []) X.env = (false, eval a X.env) :: starEach [] X.env := by rfl) (hpl2 : (backTo q2 (starEach [] X.env)).any (·.1) = false := by rfl)
    (he : starEach (Expr.Call (.Name "set" p2) [a] [] q2 :: []) X.env = (false, eval (.Call (.Name "set" p2) [a] [] q2) X.env) :: starEach [] X.env := by rfl) (hpl : (backTo pos (starEach [] X.env)).any (·.1) = false := by rfl) :
    DO X J S (.Call (.Name "sorted" p) [.Call (.Name "set" p2) [a] [] q2] [] pos) eI (mb m fun z => sortSetB (f z)) :=
  pe_imp (pe_callB (cr_sortedA hc) hg hm (by decide +kernel) (pa_cons (pe_callTy (cr_setI hc) hg2 hm2 boot_set h (by decide) (by decide) he2 hpl2) pa_nil he) (by decide) (by decide) he hpl) fun σ H Q ⟨G, own, ok, fin⟩ => B_bind FinO.wish ok fin fun z v G1 H1 g ok1 d r => by
    obtain ⟨q, rfl, h1⟩ := hq z v _ _ _ ok1.gh d
    unfold sortSetB at r
    split at r
    · rename_i hl
      refine ⟨q, f z, rfl, h1, by omega, fun t c ht hcl => ⟨t, _, c, rfl, upd_same, fun ns l h3 h4 h6 => ?_⟩⟩
      rw [usort_eq h3 h4]
      have n1 : l ≠ t := fun z => by rw [z, upd_same] at h6; cases h6
      have hl1 : H1 l = none := by rw [upd_ne n1] at h6; exact h6
      have g1 := Grow.allocO (o := SetO X.w t (fun j => decide (j ∈ f z)) c) ok1.gh ht
      have g2 := Grow.allocO (o := .lst ((usort (f z)).map V.int)) g1.gh h6
      exact r l _ G1 _ (g1.trans g2) hl1 upd_same (Same.free ok1.gh hl1) (DL.DenL.of_ints _)
    · exact r.elim
end DL

namespace DL
open PySem PySem.Spec PyProof.Rows L2
variable {X : Cx} {J : Jx}
/-! ### a loop over a range where an exception is handled -/
def DIH (X : Cx) (J : Jx) {α : Type} (S : List Sl) (tg iter : Expr) (enc : α → D) (n : M (List α)) : Prop := L2H.PIH X tg iter (tI X J S enc n)
section
variable {α β γ δ ρ : Type} {S S' : List Sl} {N : β → List Sl} {L : γ → List Sl} {Lo : δ → List Sl} {R : ρ → RV} {enc : α → D} {rest body : List Stmt} {tg iter e c : Expr} {pos : Pos} {k : Nat}
/-- a test of a list of one's own as of a frozen one: it stays one's own behind it -/
theorem t_frz {ds : List D} {m : M Bool} {b : Bool} (i : Nat) (hs : S[i]? = some (.ow ds)) (h : DT X J (S.set i (.fr (.lst ds))) e m) (he : m = .ok b) : DT X J S e (.ok b) := pt_imp h fun σ H Q ⟨G, own, ok, fin⟩ => by
  obtain ⟨G', own', sg, ok'⟩ := ok.frz hs
  rw [he]
  exact ⟨G', own', ok', fun G1 H1 gr => fin G H1 ⟨Same.refl _, gr.h, ok.gh.trans gr.h, fun _ _ => rfl⟩⟩
theorem i_range1H {a : Expr} {p : Pos} {m : M Int} (hg : Gl X "range") (hm : X.mg "range" = none) (ha : PA X [a] (tCons (tE X J S eI m) tNil)) (hs : starEach [a] X.env = [(false, eval a X.env)] := by rfl) : DIH X J S tg (.Call (.Name "range" p) [a] [] pos) eI (mb m fun n => rngM 0 n) :=
  ⟨fun pins s σ H R I ⟨G, own, ok, fin⟩ => (L2H.pi_range1H hg hm ha hs).run pins s σ H R I (E_bind FinI.wish ok fin fun n v G1 H1 g ok1 d r => by
    cases d
    unfold rngM at r
    split at r
    · rename_i h
      simp only [okI, Bool.and_eq_true, decide_eq_true_eq] at h
      refine ⟨n, rfl, h.2.1, h.2.2, ?_⟩
      have q := r (Itr 0 (n - 0).toNat) G1 H1 (Grow.refl ok1.gh) itr_ok
      rwa [show n - 0 = n by omega] at q
    · exact r.elim)⟩
theorem ss_forH {m : M (List α)} {f : α → γ → M (Out γ γ ρ)} {T : α → List Sl → List Sl} {g : γ → M (Out β δ ρ)} (s0 : γ) (C : CxS X J k) (hpo : PassesOwn (model X.prog X.w) X.A X.env X.xe) (hi : DIH X J S tg iter enc m) (hg : DG X J tg enc T) (hw0 : Wk S (L s0)) (hw : Wk S J.Sx)
    (hb : ∀ x s, DSs X J (T x (L s)) body L L R (f x s)) (hr : ∀ s, DSs X J (L s) rest N Lo R (g s)) (hs : ∀ x, foldedSetIterable iter X.env x = pure x := by intro _; rfl) :
    DSs X J S (.For tg iter body [] pos :: rest) N Lo R (mb m fun zs => sq (forM f zs s0) g) := by
  rw [← sq_mb]
  obtain ⟨gt, hg, hgt⟩ := hg
  refine ss_cons (N := L) (ps_imp (L2H.ps_forH hpo C.hot hi hg (pss_ex fun x => pss_ex fun s => hb x s) hs) fun Dn σ H ⟨G, own, ok, fin⟩ => ?_) hr
  refine ⟨G, own, ok, ?_⟩
  have W := FinS.wish (X := X) (J := J) (N := L) (L := Lo) (R := R) (Dn := Dn) (own := own) (σ := σ) hw
  cases m with
  | er x => exact W.2.1 x G H ⟨fin, ok⟩
  | no => exact fin.elim
  | ok zs =>
    intro I G1 H1 gr io
    have fin : FinS X J L Lo R Dn G (forM f zs s0) := fin
    refine ⟨fun i m σ2 H2 => m = zs.length - i ∧ i ≤ zs.length ∧ ∃ s G2 own2, OkX X J G2 H2 own2 σ2 (L s) ∧ Same G1 G2 ∧ FinS X J L Lo R Dn G2 (forM f (zs.drop i) s), ⟨_, rfl, Nat.zero_le _, s0, G1, own, (ok.grow gr).weak hw0, Same.refl _, by rw [List.drop_zero]; exact fin.mono gr.g⟩, ?_⟩
    rintro i m σ2 H2 ⟨rfl, hile, s, G2, own2, ok2, s12, fin2⟩
    by_cases hlt : i < zs.length
    · have hd : (zs.map enc)[i]? = some (enc zs[i]) := by rw [List.getElem?_map, List.getElem?_eq_getElem hlt]; rfl
      obtain ⟨go, yld⟩ := (io i H2 G2 ok2.h0 s12 ok2.gh).1 _ hd
      rw [List.drop_eq_getElem_cons hlt] at fin2
      refine .inr ⟨go, fun σ' H' => zs.length - (i + 1) = zs.length - (i + 1) ∧ i + 1 ≤ zs.length ∧ ∃ s G2 own2, OkX X J G2 H' own2 σ' (L s) ∧ Same G1 G2 ∧ FinS X J L Lo R Dn G2 (forM f (zs.drop (i + 1)) s), fun σ' H' n => ⟨_, by omega, n⟩, fun x H3 y => ?_⟩
      obtain ⟨G3, gr3, den⟩ := yld x H3 y
      refine hgt zs[i] x G3 H3 own2 σ2 (L s) _ (ok2.grow gr3) den fun σ4 own4 ok4 => ⟨zs[i], s, G3, own4, ok4, ?_⟩
      have again : ∀ {s' : γ}, FinS X J L Lo R Dn G2 (forM f (zs.drop (i + 1)) s') → ∀ σ' G' H' own', Same G3 G' → OkX X J G' H' own' σ' (L s') → zs.length - (i + 1) = zs.length - (i + 1) ∧ i + 1 ≤ zs.length ∧ ∃ s G2 own2, OkX X J G2 H' own2 σ' (L s) ∧ Same G1 G2 ∧ FinS X J L Lo R Dn G2 (forM f (zs.drop (i + 1)) s) :=
        fun {s'} q σ' G' H' own' sg ok' => ⟨rfl, hlt, s', G', own', ok', s12.trans (gr3.g.trans sg), q.mono (gr3.g.trans sg)⟩
      unfold forM at fin2
      cases hf : f zs[i] s with
      | ok o =>
        rw [hf] at fin2
        cases o with
        | nx s' => exact fun σ' G' H' own' sg ok' => again fin2 σ' G' H' own' sg ok'
        | ct s' => exact fun σ' G' H' own' sg ok' => again fin2 σ' G' H' own' sg ok'
        | bk s' => exact fun σ' G' H' own' sg ok' => fin2 σ' G' H' own' (gr3.g.trans sg) ok'
        | rt r => exact fin2
      | er x => rw [hf] at fin2; exact FinS.mono (n := .er x) (N := L) (L := L) (R := R) (Dn := ⟨_, _, _, _⟩) fin2 gr3.g
      | no => rw [hf] at fin2; exact fin2.elim
    · have he : i = zs.length := by omega
      subst he
      rw [List.drop_length] at fin2
      exact .inl ⟨(io _ H2 G2 ok2.h0 s12 ok2.gh).2 (by rw [List.length_map]; exact Nat.le_refl _), fin2 σ2 G2 H2 own2 (Same.refl _) ok2⟩
end
theorem fn_okH2 {P : Program} {w : World} {K : PySem.W.Frag} {mg : Str → Option Value} {base : Heap} {x qual : Str} {st : Stmt} {f : Addr} {fd : FuncData} {Ns ps : List Str} {k n : Nat} {ca : Str → Addr} {α β γ ρ : Type} {encA : α → List Sl} {R : ρ → RV} {Nx : α → β → List Sl} {L : α → γ → List Sl} {code : α → M (Out β γ ρ)}
    (F : Fun K x qual st f fd) (S : FnScope Ns ps (defScope st)) (hl : ∀ a, (encA a).length = ps.length) (hn : ps.length + n = Ns.length)
    (hb : ∀ (cdv : Value) (A : Around) (outer : List Env) (s : Shared) (G H : Hp) (E : XK) (a : α) (q : Addr × Obj), CxS (L2H.cxH (L2N.CX P w) P w K mg base Ns qual (defScope st) f cdv A outer s H E q) (jx ca E G H) k →
      PassesOwn (model (L2H.cxH (L2N.CX P w) P w K mg base Ns qual (defScope st) f cdv A outer s H E q).prog (L2H.cxH (L2N.CX P w) P w K mg base Ns qual (defScope st) f cdv A outer s H E q).w) (L2H.cxH (L2N.CX P w) P w K mg base Ns qual (defScope st) f cdv A outer s H E q).A (L2H.cxH (L2N.CX P w) P w K mg base Ns qual (defScope st) f cdv A outer s H E q).env (L2H.cxH (L2N.CX P w) P w K mg base Ns qual (defScope st) f cdv A outer s H E q).xe →
      DSs (L2H.cxH (L2N.CX P w) P w K mg base Ns qual (defScope st) f cdv A outer s H E q) (jx ca E G H) (encA a ++ List.replicate n .un) (defBody st) (Nx a) (L a) R (code a)) :
    L2H.FnH P w K mg base (L2N.CX P w) (k + 1) f fd ps (spF K ca encA fun a => fnO R (code a)) := by
  obtain ⟨oc, od, kV, doc, pm, an, cdv, ct, osl, rfl, lk, hcd⟩ := F.ex
  refine L2H.fn_ofH lk hcd S (fun vs H Q E ⟨a, G, e, d, r⟩ => by rw [d.length, hl a]) fun A outer s H vs Q E q hot hr ⟨a, G, e, d, r⟩ => ?_
  have C : CxS (L2H.cxH (L2N.CX P w) P w K mg base Ns qual (defScope st) f cdv A outer s H E q) (jx ca E G H) k :=
    ⟨⟨q, hot, List.mem_singleton.mpr rfl⟩, hr, L2N.takes_of rfl rfl rfl rfl, S.nd⟩
  refine ⟨_, hb cdv A outer s G H E a q C (passes_of rfl), G, _, ok_start e d (by rw [hl a]; omega), ?_⟩
  have r' : spR K ca G H (fnO R (code a)) Q E := r
  cases hc : code a with
  | ok o =>
    rw [hc] at r'
    cases o with
    | nx b => exact fun σ' G' H' own' sg ok' => r' .non G' H' ok'.base .non
    | rt q =>
      have r2 : spR K ca G H (.ok (R q)) Q E := r'
      show RtK _ _ (R q) Q
      cases hR : R q with
      | fr d => rw [hR] at r2; exact r2
      | ow ds => rw [hR] at r2; exact fun p vs G' H' g h1 h2 h3 h4 => r2 p vs G' H' g h1 h2 h3 h4
      | op ds d => rw [hR] at r2; exact fun t p u vs G' H' g h1 h2 h3 h4 h5 h6 => r2 t p u vs G' H' g h1 h2 h3 h4 h5 h6
    | bk c => exact r'.elim
    | ct c => exact r'.elim
  | er x =>
    rw [hc] at r'
    exact fun cls d σ' G' H' own' sg ok' ra => r' cls d G' H' ok'.base ra
  | no => rw [hc] at r'; exact r'.elim
end DL

namespace DL
open PySem PySem.Spec PyProof.Rows L2
variable {X : Cx} {J : Jx}
/-! ### a pair whose first part is a new list of one's own -/
def FinPq (X : Cx) (J : Jx) {α β : Type} (enc : α → D) (enb : β → D) (n : M (List α × β)) (σ : L2.St) (G H : Hp) (Q : VK) : Prop := match n with
  | .ok z => ∀ t p u vs G' H', Grow G H G' H' → H p = none → H' p = some (.lst vs) → G' p = none → SqT X.K G' t [.ref p, u] → DenL X.K J.ca G' vs (z.1.map enc) → Den X.K J.ca G' u (enb z.2) → Q (.ref t) H'
  | .er x => ErK X.K J.ca x G H fun cls d H' => J.W cls d σ H'
  | .no => False
def DPr (X : Cx) (J : Jx) {α β : Type} (S : List Sl) (e : Expr) (enc : α → D) (enb : β → D) (n : M (List α × β)) : Prop := PE X e fun σ H Q => ∃ G own, OkX X J G H own σ S ∧ FinPq X J enc enb n σ G H Q
def spP (K : PySem.W.Frag) (ca : Str → Addr) {α β ρ : Type} (encA : α → List Sl) (enc : β → D) (enb : ρ → D) (code : α → M (List β × ρ)) : Sp := spF K ca encA fun a => mb (code a) fun r => .ok (.op (r.1.map enc) (enb r.2))
/-- what a test says though it raises is not told -/
def noE {α : Type} (m : M α) : M α := match m with
  | .er _ => .no
  | m => m
theorem noE_ok {α : Type} (x : α) : noE (.ok x) = .ok x := rfl
section
variable {α β γ δ ρ κ : Type} {S S' : List Sl} {N : β → List Sl} {L : γ → List Sl} {R : ρ → RV} {enc : α → D} {enb : δ → D} {a b c e : Expr} {es : List Expr} {pos p : Pos} {k j : Nat} {rest body : List Stmt} {f : Addr} {fd : FuncData} {ps : List Str} {x : Str} {encs : κ → List Sl}
theorem FinPq.grow {n : M (List α × δ)} {σ : L2.St} {G H G' H' : Hp} {Q : VK} (f : FinPq X J enc enb n σ G H Q) (g : Grow G H G' H') : FinPq X J enc enb n σ G' H' Q := by
  cases n with
  | ok z => exact fun t p u vs G2 H2 g2 hp hq hg ht d d2 => f t p u vs G2 H2 (g.trans g2) (none_back g hp) hq hg ht d d2
  | er x => exact ErK.grow f g
  | no => exact f
theorem FinPq.wish {σ : L2.St} {Q : VK} : Wish (fun n G H => FinPq X J enc enb n σ G H Q) (fun cls d H' => J.W cls d σ H') X.K J.ca := ⟨fun _ _ _ _ _ f g => f.grow g, fun _ _ _ f => f, fun _ _ f => f⟩
theorem Pr_bind {R : M ρ → Hp → Hp → Prop} {n : M (List α × δ)} {f : List α × δ → M ρ} {σ : L2.St} {G H : Hp} {own : Addr → Option Nat} {P : VK} (w : Wish R (fun cls d H' => J.W cls d σ H') X.K J.ca) (ok : OkX X J G H own σ S) (r : R (mb n f) G H)
    (h : ∀ z t p u vs G1 H1, Grow G H G1 H1 → OkX X J G1 H1 own σ S → H p = none → own p = none → H1 p = some (.lst vs) → G1 p = none → SqT X.K G1 t [.ref p, u] → DenL X.K J.ca G1 vs (z.1.map enc) → Den X.K J.ca G1 u (enb z.2) → R (f z) G1 H1 → P (.ref t) H1) :
    ∃ G own, OkX X J G H own σ S ∧ FinPq X J enc enb n σ G H P := by
  refine ⟨G, own, ok, ?_⟩
  cases n with
  | ok z => exact fun t p u vs G1 H1 g hp hq hg ht d d2 => h z t p u vs G1 H1 g (ok.grow g) hp (Ok.fresh ok hp) hq hg ht d d2 (w.1 _ _ _ _ _ r g)
  | er x => exact w.2.1 _ _ _ r
  | no => exact w.2.2 _ _ r
/-- frozen -/
theorem e_pr {n : M (List α × δ)} (h : DPr X J S e enc enb n) : DE X J S e (eP2 (eL enc) enb) n := pe_imp h fun σ H Q ⟨G, own, ok, fin⟩ => by
  refine ⟨G, own, ok, ?_⟩
  cases n with
  | ok z =>
    refine fun t p u vs G' H' g hp hq hg ht d d2 => fin (.ref t) (upd G' p (.lst vs)) H' ⟨g.g.trans (same_upd hg), g.h, fun b o e => ?_, fun b hb => ?_⟩ (.tup (same_seqT (same_upd hg) ht) (.cons (.lst upd_same (d.mono (same_upd hg))) (.cons (d2.mono (same_upd hg)) .nil)))
    · by_cases z : b = p
      · subst z; rw [upd_same] at e; cases e; exact hq
      · rw [upd_ne z] at e; exact g.gh _ _ e
    · have : b ≠ p := fun z => hb (z ▸ hp)
      rw [upd_ne this]; exact g.n b hb
  | er x => exact fin
  | no => exact fin
theorem fn_P {P : Program} {w : World} {K : PySem.W.Frag} {mg : Str → Option Value} {base : Heap} {ca : Str → Addr} {code : κ → M (Out β γ (List α × δ))} (h : FnOk P w K mg base (L2N.CX P w) k f fd ps (spF K ca encs fun a => fnO (fun r => .op (r.1.map enc) (enb r.2)) (code a))) :
    FnOk P w K mg base (L2N.CX P w) k f fd ps (spP K ca encs enc enb fun a => fnV .no (code a)) := h.imp (sp_imp fun a => fnO_fnV (.inl rfl))
theorem p_call {code : κ → M (List α × δ)} {n : M κ} (C : CxD X J k) (hj : j ≤ k) (F : FnOk X.prog X.w X.K X.mg X.base (L2N.CX X.prog X.w) j f fd ps (spP X.K J.ca encs enc enb code)) (hm : X.mg x = some (.ref f)) (hk : PySem.W.keepIn X.K (.ref f) = true) (hb : Binds X.K fd ps [])
    (h : DX X J S (e :: es) encs n) (hg : Gl X x := by rfl) (hdb : (x == ("__debug__" : Str)) = false := by decide) (he : starEach (e :: es) X.env = (false, eval e X.env) :: starEach es X.env := by rfl) (hpl : (backTo pos (starEach es X.env)).any (·.1) = false := by rfl) :
    DPr X J S (.Call (.Name x p) (e :: es) [] pos) enc enb (mb n code) :=
  pe_imp (pe_callSD (F.mono hj) C.room hg hm hk hb .nil (fun σ => L2N.passAt C.tk σ) h hdb he hpl) fun σ H Q ⟨G, own, ok, fin⟩ => X_bind FinPq.wish ok fin fun z vs G1 H1 g1 ok1 d r => by
    show spP X.K J.ca encs enc enb code (vs ++ []) H1 Q _
    rw [List.append_nil]
    refine ⟨z, G1, ok1.gh, d, ?_⟩
    cases hc : code z with
    | ok y => rw [hc] at r; show spR X.K J.ca G1 H1 (mb (code z) _) Q _; rw [hc]; exact fun t p u ws G' H' g h1 h2 h3 h4 h5 h6 => r t p u ws G' H' g h1 h2 h3 h4 h5 h6
    | er q => rw [hc] at r; show spR X.K J.ca G1 H1 (mb (code z) _) Q _; rw [hc]; exact fun cls dd G' H' g ra => r cls dd G' H' g ra
    | no => rw [hc] at r; exact r.elim
/-- return (x, e), x a list of its own -/
theorem ss_retP {xs : List α} {m : M δ} {g : List α × δ → ρ} {kk : Nat} {px tpos : Pos} (i : Nat) (hs : S[i]? = some (.ow (xs.map enc))) (hp : PE X (.Name x px) (tVar i)) (hb : DE X J S b enb m) (hw : Wk S J.Sx) (hR : ∀ z, R (g z) = .op (z.1.map enc) (enb z.2)) (hsb : starEach [b] X.env = (false, eval b X.env) :: starEach [] X.env := by rfl) :
    DSs X J S (.Return (some (.Tuple [.Name x px, b] kk tpos)) pos :: rest) N L R (mb m fun z => .ok (.rt (g (xs, z)))) :=
  pss_imp (pss_cons (ps_ret (pe_tup (pa_cons hp (pa_cons hb pa_nil hsb)))) pss_never) fun Dn σ H ⟨G, own, ok, fin⟩ => by
    obtain ⟨q, vs, h1, h2, h3, h4⟩ := ok.sl i _ hs
    obtain ⟨n1, n2, n3⟩ := ok.ow q i h2
    refine ⟨.ref q, h1, E_bind (FinS.wish hw) ok ⟨fin, ok⟩ fun z u G1 H1 gr ok1 d r => ?_⟩
    have rt : RtK X J (R (g (xs, z))) Dn.rt := r.1
    rw [hR] at rt
    refine ⟨small_line (by show 2 ≤ 1000; decide), fun t ht => ?_⟩
    have hq1 := gr.h _ _ h3
    have hne : q ≠ t := fun z => by rw [z, ht] at hq1; cases hq1
    have hG1 : G1 q = none := (gr.n q n3).trans n2
    have hGt := Same.free ok1.gh ht
    refine rt t q u vs _ _ (ok1.base.trans (Grow.alloc ok1.gh ht)) n1 ?_ ?_ (.of upd_same) ((h4.mono gr.g).mono (same_upd hGt)) (d.mono (same_upd hGt))
    · rw [upd_ne hne]; exact hq1
    · rw [upd_ne hne]; exact hG1
/-- x = a call that answers such a pair -/
theorem ss_asgP {m : M (List α × δ)} {f : List α × δ → M (Out β γ ρ)} {i : Nat} {x : Str} {pos' : Pos} (hN : X.N.Nodup) (he : DPr X J S e enc enb m) (hr : ∀ z, DSs X J (S.set i (.op (some (z.1.map enc)) (enb z.2))) rest N L R (f z)) (hw : Wk S J.Sx) (hi : X.N[i]? = some x := by rfl) (hx : Loc X.env.scope x := by first | exact Or.inl rfl | exact Or.inr rfl)
    (hs : swapsWith e (some (.Name x pos')) pos.line X.env = pure false := by rfl) (hf : X.fn x = true ∨ X.env.scope.names.lookup x = some .local := by first | exact .inl rfl | exact .inr rfl) :
    DSs X J S (.Assign [.Name x pos'] e pos :: rest) N L R (mb m f) :=
  pss_imp (pss_cons (ps_set (i := i) hN hi hx he hs hf) (pss_ex hr)) fun Dn σ H ⟨G, own, ok, fin⟩ =>
    Pr_bind (FinS.wish hw) ok ⟨fin, ok⟩ fun z t p u vs G1 H1 g ok1 hp ho hq hg ht d d2 r => ⟨z, G1, _, ok1.setP ht d2 hq (Same.free ok.h0 hp) hg ho d, r.1⟩
/-- a test of such a pair as of a frozen one -/
theorem t_frzP {ds : List D} {d : D} {m : M Bool} (i : Nat) (hs : S[i]? = some (.op (some ds) d)) (h : DT X J (S.set i (.fr (.tup [.lst ds, d]))) e m) : DT X J S e (noE m) := pt_imp h fun σ H Q ⟨G, own, ok, fin⟩ => by
  obtain ⟨G', own', sg, ok'⟩ := ok.frzP hs
  refine ⟨G', own', ok', ?_⟩
  cases m with
  | ok b => exact fun G1 H1 gr => fin G H1 ⟨Same.refl _, gr.h, ok.gh.trans gr.h, fun _ _ => rfl⟩
  | er y => exact fin.elim
  | no => exact fin
/-- y = x[0] -/
theorem ss_takeP {ds : List D} {d : D} {m : M (Out β γ ρ)} {i j kk : Nat} {x y : Str} {px py p2 pk : Pos} (hN : X.N.Nodup) (hij : i ≠ j) (hs : S[i]? = some (.op (some ds) d)) (hp : PE X (.Name x px) (tVar i)) (hr : DSs X J ((S.set i (.op none d)).set j (.ow ds)) rest N L R m)
    (hi : X.N[j]? = some y := by rfl) (hx : Loc X.env.scope y := by first | exact Or.inl rfl | exact Or.inr rfl)
    (hsw : swapsWith (.Subscript (.Name x px) (.Constant (.int ((0 : Nat) : Int)) kk pk) p2) (some (.Name y py)) pos.line X.env = pure false := by rfl) (hf : X.fn y = true ∨ X.env.scope.names.lookup y = some .local := by first | exact .inl rfl | exact .inr rfl) :
    DSs X J S (.Assign [.Name y py] (.Subscript (.Name x px) (.Constant (.int ((0 : Nat) : Int)) kk pk) p2) pos :: rest) N L R m :=
  pss_imp (pss_cons (ps_set (i := j) hN hi hx (pe_ix ix_tup hp pe_int (by intro _ _; rfl)) hsw hf) hr) fun Dn σ H ⟨G, own, ok, fin⟩ => by
    obtain ⟨t, w, u, h1, h2, h3, h4⟩ := ok.sl i _ hs
    obtain ⟨q, vs, rfl, e2, e3, e4⟩ := h4 ds rfl
    refine ⟨.ref t, h1, t, [.ref q, u], 0, .ref q, rfl, rfl, same_seqT ok.gh h2, atI_nat (j := 0) rfl, G, _, ok.takeP hs hij h1 h2 h3 e2 vs e3 e4, fin⟩
/-- x[1] -/
theorem e_snd {o : Option (List D)} {z : δ} {kk i : Nat} {px pk : Pos} (hs : S[i]? = some (.op o (enb z))) (hp : PE X (.Name x px) (tVar i)) : DE X J S (.Subscript (.Name x px) (.Constant (.int ((1 : Nat) : Int)) kk pk) pos) enb (.ok z) :=
  pe_imp (pe_ix ix_tup hp pe_int (by intro _ _; rfl)) fun σ H Q ⟨G, own, ok, fin⟩ => by
    obtain ⟨t, w, u, h1, h2, h3, h4⟩ := ok.sl i _ hs
    exact ⟨.ref t, h1, t, [w, u], 1, u, rfl, rfl, same_seqT ok.gh h2, atI_nat (j := 1) rfl, fin u G H (Grow.refl ok.gh) h3⟩
theorem c_isB : CmpD X J .Is eB eB fun a b => decide (a = b) := ⟨_, op_is_bl, fun x y v u G H own Q _ d1 d2 q => ⟨x, y, d1.bl, d2.bl, q⟩⟩
end
end DL

namespace DL
open PySem PySem.Spec PyProof.Rows L2
/-! ### enumerate of a list or a tuple -/
theorem new_enum {v : Value} {o : Obj} {H0 : Heap → Prop} (B : Begins v o H0) :
    Meets (Builtin.«enumerate.__new__» ⟨[.type "enumerate", v], []⟩) (fun _ R s => H0 s.heap ∧
      R (.ok (.ret (.ref (s.heap.push o).objs.size))) { s with heap := (s.heap.push o).push { cls := .type "enumerate", data := .fields #[.none, .bool false, .ref s.heap.objs.size, rawInt 0, .none, .none] } }) :=
  .of_wp fun prog w A R s h => by
    obtain ⟨hp, g, d, tk, os⟩ := s
    obtain ⟨st, h⟩ := h
    have hsub := sub_enumerate
    have first : ∀ {A' : Around} {E : Value → Shared → Prop} {Q : Value → Shared → Prop}, Q (.ref hp.objs.size) ⟨hp.push o, g, d, tk, os⟩ → wpAny (model prog w) A' (pyIter v) Q E ⟨hp, g, d, tk, os⟩ := fun q => B.iter prog w _ _ ⟨hp, g, d, tk, os⟩ _ st q
    wp_walk using first
    refine wpAny_stack_any fun stk => wpAny_pure ?_
    split
    case h_1 c _ _ _ _ _ => cases (c == Value.type "enumerate") <;> (wp_walk using first; exact ⟨_, rfl, h⟩)
    case h_2 => wp_walk using first; exact ⟨_, rfl, h⟩
theorem enum_one {prog : Program} {w : World} {A : Around} {E : Value → Shared → Prop} {s : Shared} {v : Value} {o : Obj} {H0 : Heap → Prop} {Q : Value → Shared → Prop} (B : Begins v o H0) (st : H0 s.heap)
    (h : ∀ h', IsEnum h' (s.heap.objs.size + 1) s.heap.objs.size 0 .none → h'.get? s.heap.objs.size = some o → (∀ b u, s.heap.get? b = some u → h'.get? b = some u) → Q (.ref (s.heap.objs.size + 1)) { s with heap := h' }) :
    wpAny (model prog w) A (call (.type "enumerate") [v]) Q E s := by
  refine callType_new F.called_enumerate (by decide) (F.typeCall_enumerate_1 _) (F.newCall_enumerate_1 _) (fun obj => F.args_object_init_2 obj _) F.entry_enumerate_new (new_enum B) ⟨st, ?_⟩
  have hz : (s.heap.push o).objs.size = s.heap.objs.size + 1 := Heap.size_push ..
  show _ ∧ _
  rw [hz]
  have he := Heap.get?_push_size (s.heap.push o) (o := { cls := .type "enumerate", data := .fields #[.none, .bool false, .ref s.heap.objs.size, rawInt 0, .none, .none] }) rfl
  rw [hz] at he
  exact ⟨⟨_, he, rfl⟩, h _ he (Heap.get?_push_of_some _ (Heap.get?_push_size _ B.free)) fun b u x => Heap.get?_push_of_some _ (Heap.get?_push_of_some _ x)⟩
def ItE (t : Bool) (n : Nat) (K : PySem.W.Frag) (a : Addr) : It :=
  ⟨fun i H => i < n ∧ ∃ (xs : List V) (x : V), seqB t K H a xs ∧ xs[i]? = some x,
    fun i H v H' => ∃ T x, v = .ref T ∧ H T = none ∧ H' = upd H T (.tup [.int i, x]) ∧ ∀ xs, seqB t K H a xs → xs[i]? = some x,
    fun i H => n ≤ i ∧ ∃ xs : List V, seqB t K H a xs ∧ xs.length = n⟩
theorem turn_enumG {P : Program} {w : World} {K : PySem.W.Frag} {elts : List Expr} {kk n : Nat} {tpos : Pos} (t : Bool) {a e it : Addr} (hei : e ≠ it) (hea : e ≠ a) (hai : a ≠ it) :
    Turn P w K (.Tuple elts kk tpos) (ItE t n K a) [e, it] e (fun i h => i ≤ n ∧ (∃ old, IsEnum h e it (0 + (i : Int)) old) ∧ itB t h it a i) where
  mem := List.mem_cons_self
  obj := fun i h st c hc => by
    obtain ⟨_, ⟨old, he⟩, h1⟩ := st
    simp only [List.mem_cons, List.not_mem_nil, or_false] at hc
    rcases hc with rfl | rfl
    · exact ⟨_, he, fun v q => nomatch q⟩
    · exact itB_obj h1
  keep := fun i h h' st k => by
    obtain ⟨hl, ⟨old, he⟩, h1⟩ := st
    exact ⟨hl, ⟨old, k e (by simp) _ he⟩, itB_at h1 fun o q => k it (by simp) o q⟩
  item := by
    intro X hP hw hK hc i pins s σ H E I hf st hg
    subst hP hw hK
    obtain ⟨hl, he, h1⟩ := st
    obtain ⟨hlt, xs, x, hqx, hx⟩ := hg
    obtain ⟨its, rv, p, _⟩ := invB t I hqx
    obtain ⟨u, hu, ru⟩ := rv.get hx
    have W := WalksT.enumFrom (prog := X.prog) (w := X.w) (A := X.A) 0 (drawsB t (A := X.A.in1) (I.ok.hd hc) it a hai its.toArray) e hei (by simp [hei, hea]) (by simp)
    have hi : i < its.toArray.size := by
      have q1 := (List.getElem?_eq_some_iff.mp hu).1
      simpa using q1
    refine W.item i s _ _ hi ⟨he, h1, p⟩ fun T vals h' tk hP hT hIs hM hk => ?_
    obtain ⟨tt, x1, e1, rfl⟩ := hP
    have e1' : x1 = u := by simpa [hu] using e1.symm
    subst e1'
    refine ⟨_, rfl, W.go elts kk tpos i T { s with heap := h', toks := tk } _ _ hM fun h'' st'' hk2 => ?_⟩
    have hTw := W.apart i T h' hM
    have hIs2 : h''.IsTuple T #[.int (0 + (i : Int)) tt, x1] := hIs.at fun o q => hk2 T o hTw q
    have ri : RelV (.int (i : Int)) (.int (0 + (i : Int)) tt) := ⟨tt, by rw [Int.zero_add]⟩
    have new : ObjOk X.prog X.w (upd H T (.tup [.int (i : Int), x])) h'' T (.tup [.int (i : Int), x]) := ⟨by show 2 ≤ sizeLine; decide, [.int (0 + (i : Int)) tt, x1], .cons ri (.cons ru .nil), hIs2⟩
    have kept : ∀ b o, b ∉ [e, it] → s.heap.get? b = some o → h''.get? b = some o := fun c o hc q => hk2 c o hc (hk c o hc q)
    have I1 : Inv X pins σ (upd H T (.tup [.int (i : Int), x])) { s with heap := h'', toks := tk } := I.turnedNew kept hf hT new
    obtain ⟨he2, h12, _⟩ := st''
    refine ⟨.ref T, _, I1, rfl, ⟨T, x, rfl, I.hok.fresh hT, rfl, fun l hq => by rw [injB t I hq hqx]; exact hx⟩, ⟨hlt, he2, h12⟩, fun c hcm => ?_⟩
    have hne : c ≠ T := fun q => hTw (by rw [← q]; exact hcm)
    rw [upd_ne hne]
    exact (hf c hcm).1
  done := by
    intro X hP hw hK hc i pins s σ H E I hf st hg
    subst hP hw hK
    obtain ⟨hl, he, h1⟩ := st
    obtain ⟨hge, xs, hqx, hn⟩ := hg
    obtain ⟨its, rv, p, _⟩ := invB t I hqx
    have W := WalksT.enumFrom (prog := X.prog) (w := X.w) (A := X.A) 0 (drawsB t (A := X.A.in1) (I.ok.hd hc) it a hai its.toArray) e hei (by simp [hei, hea]) (by simp)
    have hi : i = its.toArray.size := by
      have q1 := rv.length
      simp only [List.size_toArray]
      omega
    subst hi
    exact W.done s _ _ ⟨he, h1, p⟩ fun h' tk hk => ⟨rfl, I.turnedL (ch := [e, it]) hk hf⟩
  self := fun A i s Q E st h => by
    obtain ⟨_, ⟨old, he⟩, _⟩ := st
    exact wpAny_pyIter_enum he h
def iEnumG (t : Bool) (K : PySem.W.Frag) (ta : TA) : TI := fun σ H R => ta σ H fun vs H1 => ∃ a xs, vs = [.ref a] ∧ seqB t K H1 a xs ∧ R (ItE t xs.length K a) H1
theorem pi_enumG {X : Cx} {e : Expr} {ta : TA} {p pos tpos : Pos} {elts : List Expr} {kk : Nat} (t : Bool) (hg : Gl X "enumerate") (hm : X.mg "enumerate" = none) (ha : PA X [e] ta)
    (hs : starEach [e] X.env = [(false, eval e X.env)] := by rfl) : PI X (.Tuple elts kk tpos) (.Call (.Name "enumerate" p) [e] [] pos) (iEnumG t X.K ta) := ⟨fun pins s σ H R I h => by
  refine Call_ (ld_blt I hg hm boot_enumerate (callWith_type1 (thn (ha.run pos pins s σ H _ I h) fun us s1 ⟨vs, H1, I1, r1, q1⟩ => ?_) hs rfl))
  obtain ⟨a, xs, rfl, hqx, q⟩ := q1
  obtain ⟨u1, rfl, r9⟩ : ∃ u1, us = [u1] ∧ RelV (.ref a) u1 := by
    cases r1 with
    | cons r rr => cases rr; exact ⟨_, rfl, r⟩
  have e1 : u1 = .ref a := r9
  subst e1
  obtain ⟨its, rv, p1, la⟩ := invB t I1 hqx
  refine enum_one (beginsB t a its.toArray) p1 fun h' he g1 hk => wpAny_pyIter_enum he ?_
  refine ⟨_, _, _, _, H1, rfl, I1.kept (t' := s1.toks) hk, turn_enumG t (Nat.succ_ne_self _) (Nat.ne_of_gt (Nat.lt_succ_of_lt la)) (Nat.ne_of_lt la), ⟨Nat.zero_le _, ⟨.none, he⟩, itB_new g1⟩, fun c hc => ?_, q⟩
  have hle : s1.heap.objs.size ≤ c := by
    simp only [List.mem_cons, List.not_mem_nil, or_false] at hc
    rcases hc with rfl | rfl <;> first | exact Nat.le_add_right _ _ | exact Nat.le_refl _
  exact I1.fpOk hle (I1.hok.fresh hle)⟩
variable {X : Cx} {J : Jx}
/-- the items with their indexes -/
def enm {α : Type} (xs : List α) : List (Int × α) := (rng 0 xs.length).zip xs
theorem enm_get {α : Type} {xs : List α} {i : Nat} (h : i < xs.length) : (enm xs)[i]? = some ((i : Int), xs[i]) := by
  unfold enm
  rw [(List.getElem?_zip_eq_some (z := ((i : Int), xs[i]))).mpr ⟨by rw [rng_get (by omega)]; simp, List.getElem?_eq_getElem h⟩]
theorem enm_len {α : Type} (xs : List α) : (enm xs).length = xs.length := by unfold enm; rw [List.length_zip, rng_len]; omega
section
variable {α β β' γ δ ρ κ ι : Type} {S : List Sl} {N : β → List Sl} {L : γ → List Sl} {R : ρ → RV} {enc : α → D} {enb : β → D} {enk : κ → D} {enl : ι → D} {tg a b c e e2 : Expr} {es : List Expr} {pos p tpos : Pos} {k j kk : Nat} {rest body : List Stmt}
theorem i_enum {t : Bool} {g1 : κ → List α} {es : List Expr} {m : M κ} (q1 : SqE X J t enk enc g1) (hg : Gl X "enumerate") (hm : X.mg "enumerate" = none) (ha : PA X [e] (tCons (tE X J S enk m) tNil)) (hs : starEach [e] X.env = [(false, eval e X.env)] := by rfl) :
    DI X J S (.Tuple es kk tpos) (.Call (.Name "enumerate" p) [e] [] pos) (eP2 eI enc) (mb m fun x => .ok (enm (g1 x))) :=
  pi_imp (pi_enumG t hg hm ha hs) fun σ H Q ⟨G, own, ok, fin⟩ => E_bind FinI.wish ok fin fun x v G1 H1 gr1 ok1 d r => by
    obtain ⟨a, xs, rfl, s1, l1⟩ := q1 x v G1 d
    have n1 := l1.length
    rw [List.length_map] at n1
    refine ⟨a, xs, rfl, s1 _ ok1.gh, r _ G1 H1 (Grow.refl ok1.gh) fun i H3 G3 h0 h1 h2 => ⟨fun dd hd => ?_, fun hl => ?_⟩⟩
    · obtain ⟨hlt, ed⟩ := List.getElem?_eq_some_iff.mp hd
      rw [List.length_map, enm_len] at hlt
      rw [List.getElem?_map, enm_get hlt] at hd
      cases hd
      obtain ⟨w1, f1, f2⟩ := l1.get (i := i) (d := enc (g1 x)[i]) (by rw [List.getElem?_map, List.getElem?_eq_getElem hlt]; rfl)
      have p1 := s1 H3 (fun b o e => h2 _ _ (h1 _ _ e))
      refine ⟨⟨by omega, xs, w1, p1, f1⟩, fun z H4 ⟨T, x', e1, e2, e3, e4⟩ => ?_⟩
      subst e1 e3
      have e6 := e4 xs p1
      rw [f1] at e6; cases e6
      refine ⟨_, Grow.alloc h2 e2, ?_⟩
      have sg := same_upd (o := .tup [.int (i : Int), w1]) (Same.free h2 e2)
      exact .tup (.of upd_same) (.cons (.int _) (.cons ((f2.mono h1).mono sg) .nil))
    · rw [List.length_map, enm_len] at hl
      exact ⟨by omega, xs, s1 H3 (fun b o e => h2 _ _ (h1 _ _ e)), rfl⟩
/-- of a lent list by its name -/
theorem i_enumL {es : List Expr} {x : Str} {px : Pos} {z : List α} (i : Nat) (hs : S[i]? = some (.ln (z.map enc))) (hp : PE X (.Name x px) (tVar i)) (hg : Gl X "enumerate") (hm : X.mg "enumerate" = none) (hst : starEach [.Name x px] X.env = [(false, eval (.Name x px) X.env)] := by rfl) :
    DI X J S (.Tuple es kk tpos) (.Call (.Name "enumerate" p) [.Name x px] [] pos) (eP2 eI enc) (.ok (enm z)) :=
  pi_imp (pi_enumG false hg hm (pa_cons hp pa_nil hst) hst) fun σ H Q ⟨G, own, ok, fin⟩ => by
    obtain ⟨q, vs, h1, h2, h3⟩ := ok.sl i _ hs
    have hq := ok.h0 _ _ h2
    have n1 := h3.length
    rw [List.length_map] at n1
    refine ⟨.ref q, h1, q, vs, rfl, SqL.of hq, fin _ G H (Grow.refl ok.gh) fun i H3 G3 h0 g1 g2 => ⟨fun dd hd => ?_, fun hl => ?_⟩⟩
    · obtain ⟨hlt, ed⟩ := List.getElem?_eq_some_iff.mp hd
      rw [List.length_map, enm_len] at hlt
      rw [List.getElem?_map, enm_get hlt] at hd
      cases hd
      obtain ⟨w1, f1, f2⟩ := h3.get (i := i) (d := enc z[i]) (by rw [List.getElem?_map, List.getElem?_eq_getElem hlt]; rfl)
      have p1 : seqB false X.K H3 q vs := SqL.of (h0 _ _ h2)
      refine ⟨⟨by omega, vs, w1, p1, f1⟩, fun y H4 ⟨T, x', e1, e2, e3, e4⟩ => ?_⟩
      subst e1 e3
      have e6 := e4 vs p1
      rw [f1] at e6; cases e6
      refine ⟨_, Grow.alloc g2 e2, ?_⟩
      have sg := same_upd (o := .tup [.int (i : Int), w1]) (Same.free g2 e2)
      exact .tup (.of upd_same) (.cons (.int _) (.cons ((f2.mono g1).mono sg) .nil))
    · rw [List.length_map, enm_len] at hl
      exact ⟨by omega, vs, SqL.of (h0 _ _ h2), rfl⟩
/-! ### a < b < c -/
theorem t_chain {enc' : κ → D} {op op' : CmpOp} {t : α → β → Bool} {t' : β → κ → Bool} {m : M α} {n : M β} {o : M κ} (h1 : CmpD X J op enc enb t) (h2 : CmpD X J op' enb enc' t') (ha : DB X J S a enc m) (hb : DB X J S b enb n) (hc : DB X J S c enc' o)
    (hm : lastMarks [op, op'] [b, c] = false := by with_unfolding_all rfl) : DT X J S (.Compare a [op, op'] [b, c] pos) (mb m fun x => mb n fun y => if t x y = true then mb o fun z => .ok (t' y z) else .ok false) := by
  obtain ⟨r, ho, hr⟩ := h1
  obtain ⟨r', ho', hr'⟩ := h2
  exact pt_imp (pt_chain ho ho' ha hb hc hm) fun σ H Q ⟨G, own, ok, fin⟩ => B_bind FinT.wish ok fin fun x v G1 H1 g1 ok1 d1 r1 => B_bind FinT.wish ok1 r1 fun y u G2 H2 g2 ok2 d2 r2 => by
    refine hr x y v u G2 H2 own _ ok2.gh (d1.grow g2) d2 ⟨_, rfl, ?_⟩
    by_cases q : t x y = true
    · rw [if_pos q] at r2 ⊢
      exact B_bind FinT.wish ok2 r2 fun z w G3 H3 g3 ok3 d3 r3 => hr' y z u w G3 H3 own _ ok3.gh (d2.grow g3) d3 ⟨_, rfl, r3 G3 H3 (Grow.refl ok3.gh)⟩
    · rw [if_neg q] at r2 ⊢
      exact ⟨_, rfl, r2 G2 H2 (Grow.refl ok2.gh)⟩
/-! ### x.pop(i) -/
def popAtM (xs : List α) (i : Int) : M (α × List α) := if 0 ≤ i ∧ i < 2 ^ 62 then (match xs[i.toNat]? with
  | some x => .ok (x, xs.eraseIdx i.toNat)
  | none => .no) else .no
theorem DenL.erase {K : PySem.W.Frag} {ca : Str → Addr} {H : Hp} : ∀ {vs : List V} {ds : List D} (n : Nat), DenL K ca H vs ds → DenL K ca H (vs.eraseIdx n) (ds.eraseIdx n)
  | _, _, _, .nil => .nil
  | _, _, 0, .cons _ t => t
  | _, _, n + 1, .cons h t => .cons h (DenL.erase n t)
theorem seqIx {i : Int} {n : Nat} (h : 0 ≤ i) (h2 : i.toNat < n) : seqIndex? i n = some i.toNat := by
  have h3 : ¬ i < 0 := by omega
  have h4 : i < (n : Int) := by omega
  simp [seqIndex?, h3, h, h4]
theorem popAt_of {G H : Hp} {own : Addr → Option Nat} {σ : L2.St} {i : Nat} {xs : List α} {q : Addr} {vs : List V} {y : α} {ys : List α} {ix : Int} (ok : OkX X J G H own σ S) (h1 : σ[i]? = some (some (.ref q))) (h2 : own q = some i) (h3 : H q = some (.lst vs)) (h4 : DenL X.K J.ca G vs (xs.map enc)) (hy : popAtM xs ix = .ok (y, ys)) :
    ∃ v, 0 ≤ ix ∧ ix < 2 ^ 62 ∧ seqIndex? ix vs.length = some ix.toNat ∧ vs[ix.toNat]? = some v ∧ Den X.K J.ca G v (enc y) ∧ OkX X J G (upd H q (.lst (vs.eraseIdx ix.toNat))) own σ (S.set i (.ow (ys.map enc))) := by
  have hl := h4.length
  rw [List.length_map] at hl
  unfold popAtM at hy
  split at hy
  · rename_i hb
    split at hy
    · rename_i x hx
      cases hy
      obtain ⟨v, e1, e2⟩ := h4.get (i := ix.toNat) (d := enc y) (by rw [List.getElem?_map, hx]; rfl)
      refine ⟨v, hb.1, hb.2, seqIx hb.1 ?_, e1, e2, ok.mut h3 h2 ?_ h1⟩
      · exact (List.getElem?_eq_some_iff.mp e1).1
      · have em : ∀ (zs : List α) (n : Nat), (zs.eraseIdx n).map enc = (zs.map enc).eraseIdx n := fun zs => by
          induction zs with
          | nil => intro n; rfl
          | cons z zs ih =>
            intro n
            cases n with
            | zero => rfl
            | succ n => show enc z :: (zs.eraseIdx n).map enc = enc z :: (zs.map enc).eraseIdx n; rw [ih]
        rw [em]
        exact DenL.erase _ h4
    · cases hy
  · cases hy
theorem popAt_er {xs : List α} {ix : Int} {z : Ex} (h : popAtM xs ix = .er z) : False := by
  unfold popAtM at h
  split at h
  · split at h <;> cases h
  · cases h
theorem ss_popAt {f : List α → M (Out β γ ρ)} {mi : M Int} {xs : List α} {x : Str} {ie : Expr} {px p2 pos2 : Pos} (i : Nat) (hs : S[i]? = some (.ow (xs.map enc))) (hr : ∀ ys, DSs X J (S.set i (.ow (ys.map enc))) rest N L R (f ys)) (hw : Wk S J.Sx)
    (hb : PE X (.Call (.Attribute (.Name x px) "pop" p2) [ie] [] pos2) (tBM X.K "list" rPopAt (tVar i) (tCons (tE X J S eI mi) tNil)))
    (hsw : swapsWith (.Call (.Attribute (.Name x px) "pop" p2) [ie] [] pos2) none pos.line X.env = pure false := by rfl) :
    DSs X J S (.Expr (.Call (.Attribute (.Name x px) "pop" p2) [ie] [] pos2) pos :: rest) N L R (mb mi fun j => mb (popAtM xs j) fun y => f y.2) :=
  pss_imp (pss_cons (ps_expr hb hsw) (pss_ex hr)) fun Dn σ H ⟨G, own, ok, fin⟩ => by
    obtain ⟨q, vs, h1, h2, h3, h4⟩ := ok.sl i _ hs
    refine ⟨.ref q, h1, .inl ⟨rfl, _, SqL.of h3⟩, ?_⟩
    refine E_bind (FinS.wish hw) ok ⟨fin, ok⟩ fun ix v G1 H1 g ok1 d r => ?_
    cases d
    have hq := g.h _ _ h3
    have r1 := r.1
    cases hy : popAtM xs ix with
    | no => rw [hy] at r1; exact r1.elim
    | er z => exact (popAt_er hy).elim
    | ok y =>
      rw [hy] at r1
      obtain ⟨v, e0, e00, e1, e2, e3, ok2⟩ := popAt_of ok1 h1 h2 hq (h4.mono g.g) hy
      exact ⟨q, vs, ix, ix.toNat, v, rfl, rfl, hq, by omega, by omega, e1, e2, _, G1, own, ok2, r1⟩
/-- y.append(x.pop(i)) -/
theorem ss_appPop {f : List α → List α → M (Out β γ ρ)} {mi : M Int} {xs zs : List α} {x y : Str} {ie : Expr} {px py p2 p3 pos2 pos3 : Pos} (i l : Nat) (hil : i ≠ l) (hs : S[i]? = some (.ow (xs.map enc))) (hs2 : S[l]? = some (.ow (zs.map enc)))
    (hr : ∀ ys ws, DSs X J ((S.set i (.ow (ys.map enc))).set l (.ow (ws.map enc))) rest N L R (f ys ws)) (hw : Wk S J.Sx)
    (hb : PE X (.Call (.Attribute (.Name y py) "append" p3) [.Call (.Attribute (.Name x px) "pop" p2) [ie] [] pos2] [] pos3) (tBM X.K "list" rAppend (tVar l) (tCons (tBM X.K "list" rPopAt (tVar i) (tCons (tE X J S eI mi) tNil)) tNil)))
    (hsw : swapsWith (.Call (.Attribute (.Name y py) "append" p3) [.Call (.Attribute (.Name x px) "pop" p2) [ie] [] pos2] [] pos3) none pos.line X.env = pure false := by rfl) :
    DSs X J S (.Expr (.Call (.Attribute (.Name y py) "append" p3) [.Call (.Attribute (.Name x px) "pop" p2) [ie] [] pos2] [] pos3) pos :: rest) N L R (mb mi fun j => mb (popAtM xs j) fun q => mb (app zs q.1) fun ws => f q.2 ws) :=
  pss_imp (pss_cons (ps_expr hb hsw) (pss_ex fun ys : List α => pss_ex fun ws : List α => hr ys ws)) fun Dn σ H ⟨G, own, ok, fin⟩ => by
    obtain ⟨q, vs, h1, h2, h3, h4⟩ := ok.sl i _ hs
    obtain ⟨q', vs', h1', h2', h3', h4'⟩ := ok.sl l _ hs2
    refine ⟨.ref q', h1', .inl ⟨rfl, _, SqL.of h3'⟩, .ref q, h1, .inl ⟨rfl, _, SqL.of h3⟩, ?_⟩
    refine E_bind (FinS.wish hw) ok ⟨fin, ok⟩ fun ix v G1 H1 g ok1 d r => ?_
    cases d
    have hq := g.h _ _ h3
    have hq' := g.h _ _ h3'
    have r1 := r.1
    cases hy : popAtM xs ix with
    | no => rw [hy] at r1; exact r1.elim
    | er z => exact (popAt_er hy).elim
    | ok y =>
      rw [hy, mb_ok] at r1
      obtain ⟨v, e0, e00, e1, e2, e3, ok2⟩ := popAt_of ok1 h1 h2 hq (h4.mono g.g) hy
      refine ⟨q, vs, ix, ix.toNat, v, rfl, rfl, hq, by omega, by omega, e1, e2, ?_⟩
      have hl := h4'.length
      rw [List.length_map] at hl
      by_cases hz : zs.length < line
      · rw [app_ok hz, mb_ok] at r1
        have hne : q' ≠ q := fun z => by rw [z, h2] at h2'; exact hil (Option.some.inj h2')
        have hq2 : (upd H1 q (.lst (vs.eraseIdx ix.toNat))) q' = some (.lst vs') := by rw [upd_ne hne]; exact hq'
        have dl : DenL X.K J.ca G1 (vs' ++ [v]) ((zs ++ [y.1]).map enc) := by
          rw [List.map_append]
          exact (h4'.mono g.g).append (.cons e3 .nil)
        exact ⟨q', vs', v, rfl, rfl, hq2, by rw [hl]; exact Nat.lt_of_lt_of_le hz line_le, y.2, _, G1, own, ok2.mut hq2 h2' dl h1', r1⟩
      · unfold app at r1
        rw [if_neg hz] at r1
        exact r1.elim
/-! ### f(e, .., k = v, ..): the exceptions' wish may hang on the slots -/
theorem run_kw {X : Cx} {CX : CXT} {n : Nat} {f : Addr} {fd : FuncData} {ps ks : List Str} {sp : Sp} {E : XK} {g : List Value → List Value → List Value} {gV : List V → List V → List V} {pins : List (Addr × Obj)} {σ : L2.St} {H : Hp} {s : Shared} {Q : VK} {us ws : List Value} {vs zs : List V}
    (F : FnOk X.prog X.w X.K X.mg X.base CX k f fd ps sp) (hr : Room k X.A) (hb : KBn X.K fd ps n ks g gV) (hx : PassesAt CX X σ E) (I : Inv X pins σ H s) (r : Vals vs us) (rz : Vals zs ws) (l1 : us.length = n) (l2 : ws.length = ks.length) (h : sp (gV vs zs) H Q E) :
    wpAny (model X.prog X.w) X.A (call (.ref f) us (ks.zip ws)) (EP X pins σ Q) X.xe s := by
  have run := F.run X.A X.stack s H ⟨us, ks.zip ws⟩ (g us ws) (gV vs zs) Q E hr I.env0 (hb.to s us ws I.kIn l1 l2) (hb.rel r rz) h
  refine wpAny_call (codeAny_mono run fun res s' hq => ?_)
  match res, hq with
  | .ok (.ret u), hq => exact I.after hq
  | .error e, hq => exact hx pins H s e s' I hq
  | .ok .next, hq => exact hq.elim
  | .ok .brk, hq => exact hq.elim
  | .ok .cont, hq => exact hq.elim
theorem e_callK {enr : ρ → D} {f : Addr} {fd : FuncData} {ps ks : List Str} {x : Str} {n : Nat} {gV : List V → List V → List V} {encA : κ → List Sl} {code : κ → M ρ} {encs : α → List Sl} {enk : β → List Sl} {ma : M α} {mk : M β} {mkA : α → β → κ} {kws : List Keyword}
    (C : CxD X J k) (hj : j ≤ k) (F : FnOk X.prog X.w X.K X.mg X.base (L2N.CX X.prog X.w) j f fd ps (spE X.K J.ca encA enr code)) (hm : X.mg x = some (.ref f)) (hkp : PySem.W.keepIn X.K (.ref f) = true) (hb : ∃ g, KBn X.K fd ps n ks g gV)
    (ha : DX X J S (e :: es) encs ma) (hk : DK X J S kws enk mk) (hn : ∀ z, (encs z).length = n) (hn2 : ∀ z, (enk z).length = ks.length)
    (hA : ∀ (G H : Hp) (vs zs : List V) (z : α) (y : β), ArgL X.K J.ca G H vs (encs z) → ArgL X.K J.ca G H zs (enk y) → ArgL X.K J.ca G H (gV vs zs) (encA (mkA z y)))
    (hg : Gl X x := by rfl) (hall : (backToKw pos (keywordEach kws X.env)).all (·.1.isSome) = true := by rfl) (hks : (backToKw pos (keywordEach kws X.env)).filterMap (·.1) = ks := by rfl)
    (hdb : (x == ("__debug__" : Str)) = false := by decide) (he : starEach (e :: es) X.env = (false, eval e X.env) :: starEach es X.env := by rfl)
    (hpl : ((backTo pos (starEach (e :: es) X.env)).any (·.1) || (backToKw pos (keywordEach kws X.env)).any (·.1.isNone)) = false := by rfl) :
    DE X J S (.Call (.Name x p) (e :: es) kws pos) enr (mb ma fun z => mb mk fun y => code (mkA z y)) := by
  obtain ⟨g, hb⟩ := hb
  refine ⟨fun pins s σ H Q I ⟨G, own, ok, fin⟩ => ?_⟩
  refine wpAny_Call_Name_kw (ld_glob I hg hm ?_ hdb)
  have ta := X_bind (X := X) (J := J) (f := fun z => mb mk fun y => code (mkA z y)) (Fin.wish (enc := enr) (Q := Q)) ok fin
    (P := fun vs H1 => ∃ z G1, OkX X J G1 H1 own σ S ∧ ArgL X.K J.ca G1 H1 vs (encs z) ∧ Fin X J enr (mb mk fun y => code (mkA z y)) σ G1 H1 Q)
    fun z vs G1 H1 g1 ok1 d r => ⟨z, G1, ok1, d, r⟩
  refine PySem.W.callWith_KW (h₀ := X.base) I.ok.mod.kin hkp hall (thn (ha.run pos pins s σ H _ I ta) fun us s1 ⟨vs, H1, I1, r1, z, G1, ok1, d1, fin1⟩ => ?_) hpl he
  have tk := X_bind (X := X) (J := J) (f := fun y => code (mkA z y)) (Fin.wish (enc := enr) (Q := Q)) ok1 fin1
    (P := fun zs H2 => ∃ y G2, OkX X J G2 H2 own σ S ∧ Grow G1 H1 G2 H2 ∧ ArgL X.K J.ca G2 H2 zs (enk y) ∧ Fin X J enr (code (mkA z y)) σ G2 H2 Q)
    fun y zs G2 H2 g2 ok2 d r => ⟨y, G2, ok2, g2, d, r⟩
  refine thn (hk.run pos pins s1 σ H1 _ I1 tk) fun ws s2 ⟨zs, H2, I2, rz, y, G2, ok2, g2, d2, fin2⟩ => ⟨I2.kIn, ?_⟩
  rw [hks]
  have dv := d1.mono g2.g g2.h
  refine run_kw (F.mono hj) C.room hb (L2N.passAt C.tk σ) I2 r1 rz (by show us.length = n; rw [← r1.length, dv.length, hn]) (by rw [← rz.length, d2.length, hn2]) ?_
  refine ⟨mkA z y, G2, ok2.gh, hA G2 H2 vs zs z y dv d2, ?_⟩
  cases hc : code (mkA z y) with
  | ok r => rw [hc] at fin2; show spR X.K J.ca G2 H2 (mb (code (mkA z y)) _) Q _; rw [hc]; exact fun v G' H' g dv => fin2 v G' H' g dv
  | er q => rw [hc] at fin2; show spR X.K J.ca G2 H2 (mb (code (mkA z y)) _) Q _; rw [hc]; exact fun cls dd G' H' g ra => fin2 cls dd G' H' g ra
  | no => rw [hc] at fin2; exact fin2.elim
/-- the arguments of a call by keywords; of one that leaves its keyword-only parameters out -/
theorem ak {K : PySem.W.Frag} {ca : Str → Addr} {e1 : α → List Sl} {e2 : β → List Sl} {e3 : κ → List Sl} {mk : α → β → κ} (h : ∀ z y, e3 (mk z y) = e1 z ++ e2 y) (G H : Hp) (vs zs : List V) (z : α) (y : β) (h1 : ArgL K ca G H vs (e1 z)) (h2 : ArgL K ca G H zs (e2 y)) : ArgL K ca G H (vs ++ zs) (e3 (mk z y)) := by
  rw [h]
  have app : ∀ {us : List V} {ss : List Sl}, ArgL K ca G H us ss → ArgL K ca G H (us ++ zs) (ss ++ e2 y) := by
    intro us ss q
    induction q with
    | nil => exact h2
    | cons d t ih => exact .cons d ih
    | consL p d t ih => exact .consL p d ih
  exact app h1
theorem akd {K : PySem.W.Frag} {ca : Str → Addr} {e1 : α → List Sl} {e2 : β → List Sl} {e3 : κ → List Sl} {mk : α → β → κ} {ds : List D} {vs0 : List V} (hd : ∀ {G : Hp}, DenL K ca G vs0 ds) (h : ∀ z y, e3 (mk z y) = e1 z ++ ds.map Sl.fr) (G H : Hp) (vs zs : List V) (z : α) (y : β) (h1 : ArgL K ca G H vs (e1 z)) (_h2 : ArgL K ca G H zs (e2 y)) : ArgL K ca G H (vs ++ vs0) (e3 (mk z y)) := by
  rw [h]
  have app : ∀ {us : List V} {ss : List Sl}, ArgL K ca G H us ss → ArgL K ca G H (us ++ vs0) (ss ++ ds.map Sl.fr) := by
    intro us ss q
    induction q with
    | nil => exact ArgL.of hd
    | cons d t ih => exact .cons d ih
    | consL p d t ih => exact .consL p d ih
  exact app h1
end
/-- a def with defaults, all its parameters given -/
theorem fn_okD {P : Program} {w : World} {K : PySem.W.Frag} {mg : Str → Option Value} {base : Heap} {x qual : Str} {params : Arguments} {bd : List Stmt} {sc : Scope} {dvs : List V} {kws : List (Str × V)} {f : Addr} {fd : FuncData} {N ps : List Str} {k n : Nat} {ca : Str → Addr} {α β γ ρ : Type} {encA : α → List Sl} {R : ρ → RV} {Nx : α → β → List Sl} {L : α → γ → List Sl} {code : α → M (Out β γ ρ)}
    (F : FunD K x qual params bd sc dvs kws f fd) (S : FnScope N ps sc) (hl : ∀ a, (encA a).length = ps.length) (hn : ps.length + n = N.length)
    (hb : ∀ (cdv : Value) (A : Around) (outer : List Env) (s : Shared) (G H : Hp) (E : XK) (a : α), CxD (cxOf (L2N.CX P w) P w K mg base N qual sc f cdv A outer s H E) (jx ca E G H) k →
      DSs (cxOf (L2N.CX P w) P w K mg base N qual sc f cdv A outer s H E) (jx ca E G H) (encA a ++ List.replicate n .un) bd (Nx a) (L a) R (code a)) :
    FnOk P w K mg base (L2N.CX P w) (k + 1) f fd ps (spF K ca encA fun a => fnO R (code a)) := by
  obtain ⟨oc, od, dV, kV, doc, pm, an, cdv, ct, osl, rfl, lk, hcd, _, _⟩ := F.ex
  refine fn_of lk hcd S (fun vs H Q E ⟨a, G, e, d, r⟩ => by rw [d.length, hl a]) fun A outer s H vs Q E hr ⟨a, G, e, d, r⟩ => ?_
  have C : CxD (cxOf (L2N.CX P w) P w K mg base N qual sc f cdv A outer s H E) (jx ca E G H) k :=
    ⟨rfl, L2N.takes_of rfl rfl rfl rfl, passes_of rfl, hr, S.nd⟩
  refine ⟨_, hb cdv A outer s G H E a C, G, _, ok_start e d (by rw [hl a]; omega), ?_⟩
  have r' : spR K ca G H (fnO R (code a)) Q E := r
  cases hc : code a with
  | ok o =>
    rw [hc] at r'
    cases o with
    | nx b => exact fun σ' G' H' own' sg ok' => r' .non G' H' ok'.base .non
    | rt q =>
      have r2 : spR K ca G H (.ok (R q)) Q E := r'
      show RtK _ _ (R q) Q
      cases hR : R q with
      | fr d => rw [hR] at r2; exact r2
      | ow ds => rw [hR] at r2; exact fun p vs G' H' g h1 h2 h3 h4 => r2 p vs G' H' g h1 h2 h3 h4
      | op ds d => rw [hR] at r2; exact fun t p u vs G' H' g h1 h2 h3 h4 h5 h6 => r2 t p u vs G' H' g h1 h2 h3 h4 h5 h6
    | bk c => exact r'.elim
    | ct c => exact r'.elim
  | er x =>
    rw [hc] at r'
    exact fun cls d σ' G' H' own' sg ok' ra => r' cls d G' H' ok'.base ra
  | no => rw [hc] at r'; exact r'.elim
end DL

namespace DL
open PySem PySem.Spec PyProof.Rows L2 PySem.W
variable {X : Cx} {J : Jx}
/-! ### max(t), min(t), t a tuple of ints: max_tuple_datum, min_tuple_datum -/
section
variable {S : List Sl} {a : Expr} {pos p : Pos}
theorem maxOf_eq : ∀ (xs : List Int) (x : Int), maxOf x xs = xs.foldl max x
  | [], _ => rfl
  | y :: xs, x => by
    have ih := maxOf_eq xs (max x y)
    unfold maxOf at ih ⊢
    rw [List.foldl_cons, List.foldl_cons, ← ih]
    congr 1
    show (if decide (x < y) = true then y else x) = max x y
    by_cases q : x < y
    · rw [if_pos (decide_eq_true q), Int.max_eq_right (Int.le_of_lt q)]
    · rw [if_neg (by simpa using q), Int.max_eq_left (by omega)]
theorem minOf_eq : ∀ (xs : List Int) (x : Int), minOf x xs = xs.foldl min x
  | [], _ => rfl
  | y :: xs, x => by
    have ih := minOf_eq xs (min x y)
    unfold minOf at ih ⊢
    rw [List.foldl_cons, List.foldl_cons, ← ih]
    congr 1
    show (if decide (y < x) = true then y else x) = min x y
    by_cases q : y < x
    · rw [if_pos (decide_eq_true q), Int.min_eq_right (Int.le_of_lt q)]
    · rw [if_neg (by simpa using q), Int.min_eq_left (by omega)]
theorem cr_maxT (hc : X.calm = true) (hu : X.A.units + 64 < cLine) : CallR X (.builtin "max") (fun vs H Q => ∃ (a : Addr) (x : Int) (xs : List Int), vs = [V.ref a] ∧ SqT X.K H a ((x :: xs).map V.int) ∧ Q (.int (xs.foldl max x)) H) := by
  intro pins s σ H vs us Q I r h
  obtain ⟨a, x, xs, rfl, hs, q⟩ := h
  obtain ⟨its, rv, hl, _⟩ := I.tuple hs
  rw [Vals.ref1 r]
  refine max_tuple_datum (x := x) (xs := xs) (I.ok.hd hc) hl (HoldAll.of_ints rv.ints) (by show _ + 1 + 0 < cLine; omega) fun i v h' tk hi hh hk => ?_
  obtain ⟨as, rd⟩ := hh
  rw [maxOf_eq] at rd
  cases rd with
  | int n t => exact ⟨.int _, H, I.kept hk, ⟨_, rfl⟩, q⟩
theorem cr_minT (hc : X.calm = true) (hu : X.A.units + 64 < cLine) : CallR X (.builtin "min") (fun vs H Q => ∃ (a : Addr) (x : Int) (xs : List Int), vs = [V.ref a] ∧ SqT X.K H a ((x :: xs).map V.int) ∧ Q (.int (xs.foldl min x)) H) := by
  intro pins s σ H vs us Q I r h
  obtain ⟨a, x, xs, rfl, hs, q⟩ := h
  obtain ⟨its, rv, hl, _⟩ := I.tuple hs
  rw [Vals.ref1 r]
  refine min_tuple_datum (x := x) (xs := xs) (I.ok.hd hc) hl (HoldAll.of_ints rv.ints) (by show _ + 1 + 0 < cLine; omega) fun i v h' tk hi hh hk => ?_
  obtain ⟨as, rd⟩ := hh
  rw [minOf_eq] at rd
  cases rd with
  | int n t => exact ⟨.int _, H, I.kept hk, ⟨_, rfl⟩, q⟩
theorem e_maxT {m : M (List Int)} (hc : X.calm = true) (hu : X.A.units + 64 < cLine) (hm : X.mg "max" = none) (h : PA X [a] (tCons (tE X J S (eT eI) m) tNil)) (hg : Gl X "max" := by rfl)
    (he : starEach (a :: []) X.env = (false, eval a X.env) :: starEach [] X.env := by rfl) (hpl : (backTo pos (starEach [] X.env)).any (·.1) = false := by rfl) : DE X J S (.Call (.Name "max" p) [a] [] pos) eI (mb m fun xs => maxI xs) :=
  pe_imp (pe_callB (cr_maxT hc hu) hg hm (by decide +kernel) h (by decide) (by decide) he hpl) fun σ H Q ⟨G, own, ok, fin⟩ => E_bind Fin.wish ok fin fun xs v G1 H1 g ok1 d r => by
    obtain ⟨q, vs, rfl, h1, h2⟩ := Den.tuple (X := X) ok1.gh d
    rw [DenL.ints h2] at h1
    cases xs with
    | nil => exact r.elim
    | cons x xs => exact ⟨q, x, xs, rfl, h1, r _ G1 H1 (Grow.refl ok1.gh) (.int _)⟩
theorem e_minT {m : M (List Int)} (hc : X.calm = true) (hu : X.A.units + 64 < cLine) (hm : X.mg "min" = none) (h : PA X [a] (tCons (tE X J S (eT eI) m) tNil)) (hg : Gl X "min" := by rfl)
    (he : starEach (a :: []) X.env = (false, eval a X.env) :: starEach [] X.env := by rfl) (hpl : (backTo pos (starEach [] X.env)).any (·.1) = false := by rfl) : DE X J S (.Call (.Name "min" p) [a] [] pos) eI (mb m fun xs => minI xs) :=
  pe_imp (pe_callB (cr_minT hc hu) hg hm (by decide +kernel) h (by decide) (by decide) he hpl) fun σ H Q ⟨G, own, ok, fin⟩ => E_bind Fin.wish ok fin fun xs v G1 H1 g ok1 d r => by
    obtain ⟨q, vs, rfl, h1, h2⟩ := Den.tuple (X := X) ok1.gh d
    rw [DenL.ints h2] at h1
    cases xs with
    | nil => exact r.elim
    | cons x xs => exact ⟨q, x, xs, rfl, h1, r _ G1 H1 (Grow.refl ok1.gh) (.int _)⟩
end
end DL

namespace DL
open PySem PySem.Spec PyProof.Rows L2
variable {X : Cx} {J : Jx}
/-! ### xs.index(k), xs a list of ints: MeetsSeq.list_index -/
def ixOf (k : Int) : List Int → Option Nat
  | [] => none
  | x :: xs => if x = k then some 0 else (ixOf k xs).map (· + 1)
def ixOfM (xs : List Int) (k : Int) : M Int := match ixOf k xs with
  | some j => .ok (j : Int)
  | none => .no
theorem ixOf_hit {k : Int} : ∀ {xs : List Int} {j : Nat}, ixOf k xs = some j → xs[j]? = some k ∧ ∀ i y, i < j → xs[i]? = some y → y ≠ k
  | x :: xs, j, h => by
    unfold ixOf at h
    by_cases q : x = k
    · rw [if_pos q] at h
      cases h
      exact ⟨by rw [q]; rfl, fun i y hi => absurd hi (Nat.not_lt_zero _)⟩
    · rw [if_neg q] at h
      obtain ⟨m, hm, rfl⟩ := Option.map_eq_some_iff.mp h
      obtain ⟨h1, h2⟩ := ixOf_hit hm
      refine ⟨by simpa using h1, fun i y hi hy => ?_⟩
      cases i with
      | zero =>
        rw [List.getElem?_cons_zero] at hy
        cases hy
        exact q
      | succ i => exact h2 i y (by omega) (by simpa using hy)
def rIndex : V → List V → Hp → VK → Prop := fun x vs H Q => ∃ (l : Addr) (ns : List Int) (k : Int) (j : Nat), x = .ref l ∧ vs = [.int k] ∧ H l = some (.lst (ns.map V.int)) ∧ ixOf k ns = some j ∧ Q (.int j) H
theorem ints_at : ∀ {its : List Value} {ns : List Int}, IntsAre its ns → its.length = ns.length ∧ ∀ (i : Nat) (v : Value), its[i]? = some v → ∃ n t, v = .int n t ∧ ns[i]? = some n
  | _, _, .nil => ⟨rfl, fun i v h => by cases h⟩
  | _, _, .cons n t r => by
    obtain ⟨l, h⟩ := ints_at r
    refine ⟨by rw [List.length_cons, List.length_cons, l], fun i v hv => ?_⟩
    cases i with
    | zero =>
      rw [List.getElem?_cons_zero] at hv
      cases hv
      exact ⟨n, t, rfl, rfl⟩
    | succ i =>
      rw [List.getElem?_cons_succ] at hv
      obtain ⟨m, u, e1, e2⟩ := h i v hv
      exact ⟨m, u, e1, by rw [List.getElem?_cons_succ]; exact e2⟩
theorem mt_index : MtR X "list.index" rIndex := by
  intro pins s σ H x vs v us Q I rx rv h
  obtain ⟨l, ns, k, j, rfl, rfl, hH, hj, q⟩ := h
  cases rx
  obtain ⟨u, rfl, ru⟩ := rv.one
  obtain ⟨t, rfl⟩ := ru
  obtain ⟨z, its, n, r, hl, e⟩ := I.lstM hH
  obtain ⟨il, ia⟩ := ints_at r.ints
  obtain ⟨g1, g2⟩ := ixOf_hit hj
  have jl : j < ns.length := (List.getElem?_eq_some_iff.mp g1).1
  have at_ : ∀ (i : Nat) (hi : i < its.toArray.size), ∃ t, its.toArray[i] = .int (ns[i]'(by rw [← il]; simpa using hi)) t := fun i hi => by
    have hi' : i < its.length := by simpa using hi
    obtain ⟨m, u, e1, e2⟩ := ia i its[i] (List.getElem?_eq_getElem hi')
    refine ⟨u, ?_⟩
    rw [List.getElem?_eq_getElem (by omega)] at e2
    cases e2
    simpa using e1
  rw [List.length_map] at z
  rw [sizeLine_eq] at z
  refine call_meets F.slot_list_index ⟨_, e, rfl⟩ F.entry_list_index (F.args_list_index_2 _ _)
    (MeetsSeq.list_index l its.toArray n (.int k t) (isInt k) (fun y hy => ?_) j (by simp; omega) (by omega) ?_ fun i hi hlt => ?_) ⟨e, ?_⟩
  · obtain ⟨i, hi, rfl⟩ := Array.mem_iff_getElem.mp hy
    obtain ⟨u, eu⟩ := at_ i hi
    rw [eu]
    exact MeetsSeq.EqGives.int _ k u t
  · obtain ⟨u, eu⟩ := at_ j (by simp; omega)
    rw [eu]
    rw [List.getElem?_eq_getElem jl] at g1
    cases g1
    simp [isInt]
  · obtain ⟨u, eu⟩ := at_ i hi
    rw [eu]
    have := g2 i _ hlt (List.getElem?_eq_getElem (by omega))
    simp [isInt, this]
  · exact ⟨.int j, H, I.kept fun _ _ e => e, ⟨_, rfl⟩, q⟩
section
variable {S : List Sl} {a b : Expr} {pos p2 : Pos}
theorem e_index {m : M (List Int)} {n : M Int} (hb : PE X (.Call (.Attribute a "index" p2) [b] [] pos) (tBM X.K "list" rIndex (tEb X J S (eL eI) m) (tCons (tE X J S eI n) tNil))) :
    DE X J S (.Call (.Attribute a "index" p2) [b] [] pos) eI (mb m fun xs => mb n fun k => ixOfM xs k) :=
  pe_imp hb fun σ H Q ⟨G, own, ok, fin⟩ => B_bind Fin.wish ok fin fun xs v G1 H1 g ok1 d r => by
    obtain ⟨q0, vs0, rfl, h10, h20⟩ := DenB.list ok1.gh d
    refine ⟨.inl ⟨rfl, _, SqL.of h10⟩, ?_⟩
    refine E_bind Fin.wish ok1 r fun k u G2 H2 g2 ok2 d2 r2 => ?_
    cases d2
    obtain ⟨q, vs, e, h1, h2⟩ := DenB.list ok2.gh (d.grow g2)
    rw [DenL.ints h2] at h1
    unfold ixOfM at r2
    cases hx : ixOf k xs with
    | none => rw [hx] at r2; exact r2.elim
    | some j =>
      rw [hx] at r2
      exact ⟨q, xs, k, j, e, rfl, h1, hx, r2 _ G2 H2 (Grow.refl ok2.gh) (.int _)⟩
end
/-! ### x[i] += e, x a list of ints of one's own, 0 <= i -/
def ixP (xs : List Int) (i : Int) : M Int := if 0 ≤ i then (match xs[i.toNat]? with
  | some x => .ok x
  | none => .no) else .no
theorem get_own : PGet X (fun o i H Q => ∃ (p : Addr) (vs : List V) (j : Int) (v : V), o = .ref p ∧ i = .int j ∧ H p = some (.lst vs) ∧ 0 ≤ j ∧ vs[j.toNat]? = some v ∧ Q v H) := by
  intro pins s σ H o i ov iv Q I ro ri h
  obtain ⟨p, vs, j, v, rfl, rfl, hH, h0, hv, q⟩ := h
  cases ro
  obtain ⟨t, rfl⟩ := ri
  obtain ⟨z, its, n, r, hl, e⟩ := I.lstM hH
  obtain ⟨w, hw, rw'⟩ := r.get hv
  have hj : j.toNat < vs.length := (List.getElem?_eq_some_iff.mp hv).1
  rw [sizeLine_eq] at z
  exact wpAny_getItem_list (x := w) (IsL.isList e) h0 (by omega) (by simpa using hw) ⟨v, H, I, rw', q⟩
section
variable {β γ ρ : Type} {S : List Sl} {N : β → List Sl} {L : γ → List Sl} {R : ρ → RV} {e : Expr} {pos : Pos} {rest : List Stmt}
theorem ss_augAt {m mi : M Int} {f : List Int → M (Out β γ ρ)} {xs : List Int} {x : Str} {ie : Expr} {px p2 : Pos} (i : Nat) (hs : S[i]? = some (.ow (xs.map eI))) (hp : PE X (.Name x px) (tVar i)) (hi : DE X J S ie eI mi) (he : DE X J S e eI m)
    (hr : ∀ ys : List Int, DSs X J (S.set i (.ow (ys.map eI))) rest N L R (f ys)) (hw : Wk S J.Sx)
    (ha : ∀ ov iv new, augStore ie ov iv new = (do holding [new, ov, iv] (setItem ov iv new); release [new, ov, iv] []; pure .next) := by intros; rfl) :
    DSs X J S (.AugAssign (.Subscript (.Name x px) ie p2) .Add e pos :: rest) N L R (mb mi fun j => mb (ixP xs j) fun a => mb m fun z => mb (setM xs j (a + z)) f) :=
  pss_imp (pss_cons (ps_augS hp hi get_own he ip_add set_list ha) (pss_ex hr)) fun Dn σ H ⟨G, own, ok, fin⟩ => by
    obtain ⟨q, vs, q1, q2, q3, q4⟩ := ok.sl i _ hs
    refine ⟨.ref q, q1, E_bind (FinS.wish hw) ok ⟨fin, ok⟩ fun j v G1 H1 g1 ok1 d r => ?_⟩
    cases d
    have hq1 := g1.h _ _ q3
    have q41 := q4.mono g1.g
    have r0 := r.1
    cases hx : ixP xs j with
    | no => rw [hx] at r0; exact r0.elim
    | er z =>
      unfold ixP at hx
      split at hx
      · split at hx <;> cases hx
      · cases hx
    | ok a =>
      rw [hx, mb_ok] at r
      have h0 : 0 ≤ j ∧ xs[j.toNat]? = some a := by
        unfold ixP at hx
        split at hx
        · rename_i h0
          split at hx
          · rename_i y hy
            cases hx
            exact ⟨h0, hy⟩
          · cases hx
        · cases hx
      obtain ⟨w, e1, e2⟩ := q41.get (i := j.toNat) (d := eI a) (by rw [List.getElem?_map, h0.2]; rfl)
      cases e2
      refine ⟨q, vs, j, _, rfl, rfl, hq1, h0.1, e1, E_bind (FinS.wish hw) ok1 r fun z u G2 H2 g2 ok2 d2 r2 => ?_⟩
      cases d2
      have hq := g2.h _ _ hq1
      have q4' := q41.mono g2.g
      have hl := q4'.length
      rw [List.length_map] at hl
      have r3 := r2.1
      unfold setM at r3
      cases hix : ixN xs.length j with
      | none => rw [hix] at r3; exact r3.elim
      | some jj =>
        rw [hix] at r3
        have dl : DenL X.K J.ca G2 (vs.set jj (.int (a + z))) ((xs.set jj (a + z)).map eI) := by
          rw [List.map_set]
          exact DenL.set (.int _) jj q4'
        exact ⟨a, z, rfl, rfl, q, vs, j, jj, rfl, rfl, hq, by rw [hl]; exact hix, _, G2, own, ok2.mut hq q2 dl q1, r3⟩
end
end DL

namespace DL
open PySem PySem.Spec PyProof.Rows L2
variable {X : Cx} {J : Jx}
/-! ### f(), a def without parameters that makes a list -/
section
variable {ρ : Type} {S : List Sl} {enr : ρ → D} {f : Addr} {fd : FuncData} {x : Str} {pos p : Pos} {k j : Nat}
theorem o_call0 {encs : Unit → List Sl} {code : Unit → M (List ρ)} (C : CxD X J k) (hj : j ≤ k) (F : FnOk X.prog X.w X.K X.mg X.base (L2N.CX X.prog X.w) j f fd [] (spO X.K J.ca encs enr code)) (hm : X.mg x = some (.ref f)) (hk : PySem.W.keepIn X.K (.ref f) = true) (hb : Binds X.K fd [] []) {n : M Unit} (h : DX X J S [] encs n) (hn : n = .ok ()) (he : encs () = [])
    (hg : Gl X x := by rfl) (hdb : (x == ("__debug__" : Str)) = false := by decide) :
    DO X J S (.Call (.Name x p) [] [] pos) enr (mb n code) := by
  subst hn
  have hp : PE X (.Call (.Name x p) [] [] pos) (fun σ H Q => (spO X.K J.ca encs enr code) ([] ++ []) H Q (fun V H => WE J.W σ V H)) := by
    refine ⟨fun pins s σ H Q I h => ?_⟩
    refine wpAny_Call_Name_kw (ld_glob I hg hm ?_ hdb)
    exact PySem.W.callWith_K0 I.kIn hk (run_fnSD (us := []) (vs := []) (F.mono hj) C.room hb .nil (L2N.passAt C.tk σ) I .nil h)
  refine pe_imp hp fun σ H Q ⟨G, own, ok, fin⟩ => ?_
  refine ⟨(), G, ok.gh, by rw [he]; exact .nil, ?_⟩
  have r : FinO X J enr (code ()) σ G H Q := fin
  cases hc : code () with
  | ok y => rw [hc] at r; show spR X.K J.ca G H (mb (code ()) _) Q _; rw [hc]; exact fun p ws G' H' g h1 h2 h3 h4 => r p ws G' H' g h1 h2 h3 h4
  | er q => rw [hc] at r; show spR X.K J.ca G H (mb (code ()) _) Q _; rw [hc]; exact fun cls dd G' H' g ra => r cls dd G' H' g ra
  | no => rw [hc] at r; exact r.elim
end
end DL

namespace DL
open PySem PySem.Spec PyProof.Rows L2
variable {X : Cx} {J : Jx}
/-! ### list(o), o of an own class whose __iter__ returns iter(self.f), f a tuple -/
abbrev itTObj (l : Addr) : Obj := { cls := .type "tuple_iterator", data := .fields #[.ref l, .int 0 0] }
/-- at it an iterator over the tuple at l, at its start -/
def ItT (l it : Addr) : HO := .ext fun h => h.get? it = some (itTObj l)
theorem itT_ok {P : Program} {w : World} {H : Hp} {h : Heap} {l it : Addr} (e : h.get? it = some (itTObj l)) : ObjOk P w H h it (ItT l it) := ⟨e, ⟨_, e⟩, fun _ _ q k => k _ q⟩
def rIterT (K : PySem.W.Frag) : List V → Hp → VK → Prop := fun vs H Q => ∃ (l : Addr) (zs : List V), vs = [V.ref l] ∧ SqT K H l zs ∧ ∀ it, H it = none → (∀ b u, H b = some u → b < it) → Q (.ref it) (upd H it (ItT l it))
/-- iter(t), t a tuple; the iterator is younger than all that is tracked -/
theorem cr_iterT : CallR X (.builtin "iter") (rIterT X.K) := by
  intro pins s σ H vs us Q I r h
  obtain ⟨l, zs, rfl, hs, q⟩ := h
  obtain ⟨its, rv, hl, _⟩ := I.tuple hs
  rw [Vals.ref1 r]
  refine Calls.call_function_entry (by decide +kernel) (by decide +kernel) PySem.W.kdk_entry_iter (PySem.W.kdk_args_iter _) ?_
  unfold Builtin.«iter»
  refine wpAny_bind (m := someArgs "iter" 1 2 _) (wpAny_of_eq (a := [Value.ref l]) (by first | rfl | kernel_rfl!) ?_)
  show wpAny _ _ (pyIter (.ref l) >>= _) _ _ _
  refine wpAny_bind (wpAny_pyIter_tuple hl ?_)
  refine wpAny_pure ⟨_, rfl, .ref s.heap.objs.size, _, I.laid (t' := s.toks) (fun b u e => Heap.get?_push_of_some _ e) (Nat.le_refl _) (itT_ok (Heap.get?_push_size _ rfl)), rfl, q _ (I.hok.fresh (Nat.le_refl _)) fun b u e => ?_⟩
  refine Nat.lt_of_not_le fun z => ?_
  rw [I.hok.fresh z] at e
  cases e
/-- what a def __iter__ promises that returns iter(self.fl) -/
def spIt (K : PySem.W.Frag) (C : Addr) (fl : Str) : Sp := fun vs H Q _ => ∃ (a dx t : Addr) (gs : List (Str × V)) (zs : List V), vs = [V.ref a] ∧ H a = some (.ins C dx gs) ∧ gs.lookup fl = some (.ref t) ∧ SqT K H t zs ∧ ∀ it, H it = none → (∀ b u, H b = some u → b < it) → Q (.ref it) (upd H it (ItT t it))
def tIt (K : PySem.W.Frag) (fl : Str) : TS := tSeq (tRet (tCB (rIterT K) (tCons (tFld K (tVar 0) fl) tNil))) tNever
theorem iter_ok {P : Program} {w : World} {K : PySem.W.Frag} {mg : Str → Option Value} {base : Heap} {x qual fl : Str} {st : Stmt} {f C : Addr} {fd : FuncData} (F : Fun K x qual st f fd) (S : FnScope ["self"] ["self"] (defScope st)) (cl : Cls K C) (na : NoAttr K C fl)
    (hP : ∀ (cdv : Value) (A : Around) (outer : List Env) (s : Shared) (H : Hp) (E : XK), PSs (cxOf (L2N.CX P w) P w K mg base ["self"] qual (defScope st) f cdv A outer s H E) (defBody st) (tIt K fl)) :
    FnOk P w K mg base (L2N.CX P w) 1 f fd ["self"] (spIt K C fl) := by
  obtain ⟨oc, od, kV, doc, pm, an, cdv, ct, osl, rfl, lk, hcd⟩ := F.ex
  refine fn_of (k := 0) lk hcd S (fun vs H Q E ⟨a, dx, t, gs, zs, e, _⟩ => by rw [e]; rfl) fun A outer s H vs Q E hr ⟨a, dx, t, gs, zs, e, ha, hg, hs, q⟩ => ?_
  subst e
  exact ⟨_, hP cdv A outer s H E, .ref a, rfl, a, C, dx, gs, .ref t, rfl, ha, cl, na, hg, t, zs, rfl, hs, q⟩
section
variable {pins : List (Addr × Obj)} {σ : L2.St}
theorem fp_upd {H : Hp} {it q : Addr} {o : HO} (h : FpOk X pins H it) (ne : it ≠ q) : FpOk X pins (upd H q o) it := ⟨by rw [upd_ne ne]; exact h.1, h.2⟩
/-- the iterator over the tuple fills the list -/
theorem it_loop {A1 : Around} {q it l : Addr} {its : List Value} {zs : List V} {H : Hp} {Rs : Result → Shared → Prop} (hh : A1.handled = none) (rv : Vals zs its) (nl : l ≠ it) (nq : it ≠ q) (nlq : l ≠ q) (hz : its.length ≤ sizeLine)
    (hdone : ∀ s, Inv X pins σ (upd H q (.lst zs)) s → Rs (.ok (.ret .none)) s) :
    ∀ (m i : Nat) (s : Shared), m + i = its.length → Inv X pins σ (upd H q (.lst (zs.take i))) s → FpOk X pins H it → s.heap.IsTupleIter it l i → s.heap.IsTuple l its.toArray →
      codeAny (model X.prog X.w) A1 (.builtin "list.extend.loop" ⟨[.ref q, .ref it, .none], []⟩) Rs s
  | 0, i, s, e, I, hf, hit, ht => by
    have hi : i = its.length := by omega
    have hl := rv.length
    refine codeAny_builtin PySem.F.entry_extend_loop ?_
    rw [Around.under_plainId PySem.F.plain_extend_loop _]
    show wpAny _ A1.in1 (pyNext (.ref it) >>= _) _ _ s
    refine wpAny_bind (wpAny_pyNext_tuple_end (A := A1.in1) hh hit ht (by simp [hi]) fun h' hk => ?_)
    refine wpAny_pure (hdone _ ?_)
    have I2 := I.turnedL (h' := h') (t' := s.toks) (ch := [it]) (fun b o hb eo => hk b o (fun z => hb (List.mem_singleton.mpr z)) eo) (fun b hb => by rw [List.mem_singleton.mp hb]; exact fp_upd hf nq)
    have e2 : zs.take i = zs := List.take_of_length_le (by omega)
    rw [e2] at I2
    exact I2
  | m + 1, i, s, e, I, hf, hit, ht => by
    have hlt : i < its.length := by omega
    have hl := rv.length
    refine codeAny_builtin PySem.F.entry_extend_loop ?_
    rw [Around.under_plainId PySem.F.plain_extend_loop _]
    show wpAny _ A1.in1 (pyNext (.ref it) >>= _) _ _ s
    refine wpAny_bind (wpAny_pyNext_tuple_item hit ht (x := its[i]) (by simp [hlt]) fun h' hit' hs => ?_)
    have hk : ∀ b o, b ∉ [it] → s.heap.get? b = some o → h'.get? b = some o := fun b o hb eo => hs.extBut b o (fun z => hb (List.mem_singleton.mpr z)) eo
    have I2 : Inv X pins σ (upd H q (.lst (zs.take i))) { s with heap := h', toks := s.toks } := I.turnedL (ch := [it]) hk (fun b hb => by rw [List.mem_singleton.mp hb]; exact fp_upd hf nq)
    have ht2 : h'.IsTuple l its.toArray := ht.at fun o eo => hk l o (fun z => nl (List.mem_singleton.mp z)) eo
    show wpAny _ A1.in1 (updateSeq q (·.push its[i]) >>= _) _ _ _
    obtain ⟨z, its2, k, r2, hl2, e2⟩ := I2.lstM upd_same
    have hv : ∃ v, zs[i]? = some v ∧ RelV v its[i] := by
      have hz2 : i < zs.length := by omega
      obtain ⟨u, h1, h2⟩ := rv.get (i := i) (x := zs[i]) (List.getElem?_eq_getElem hz2)
      rw [List.getElem?_eq_getElem hlt] at h1
      cases h1
      exact ⟨zs[i], List.getElem?_eq_getElem hz2, h2⟩
    obtain ⟨v, hv1, hv2⟩ := hv
    have tl : (zs.take i).length = i := by rw [List.length_take]; omega
    refine wpAny_bind (wpAny_updateSeq e2 rfl (wpAny_pure ⟨plainId_quiet PySem.F.plain_extend_loop _, ?_⟩) (by rw [List.size_toArray]; omega) (by show (its2.toArray.push its[i]).size ≤ sizeLine + 1; rw [Array.size_push, List.size_toArray]; omega))
    have I3 := I2.lset (its' := its2 ++ [its[i]]) (t' := s.toks) upd_same e2 (f := (·.push its[i])) (by simp) (r2.append (.cons hv2 .nil)) (by rw [List.length_append, List.length_singleton]; omega)
    rw [upd_upd] at I3
    have e3 : zs.take i ++ [v] = zs.take (i + 1) := by
      rw [List.take_add_one, hv1]
      rfl
    rw [e3] at I3
    refine it_loop hh rv nl nq nlq hz hdone m (i + 1) _ (by omega) I3 hf ?_ ?_
    · exact hit'.at fun o eo => (Heap.get?_update_other _ _ (Ne.symm nq)).trans eo
    · exact ht2.at fun o eo => (Heap.get?_update_other _ _ (Ne.symm nlq)).trans eo
theorem cx_no {P : Program} {w : World} {outer : List Env} {H : Hp} {s s' : Shared} {u : Value} {α : Prop} (z : L2N.CX P w outer H s (fun _ _ _ => False) u s') : α := by
  obtain ⟨a, B, H', cls, d, _, _, _, _, _, _, _, h⟩ := z
  exact h.elim
theorem room_of {X : Cx} {n : Nat} {A : Around} (sb : Sub X n A) {s : Shared} {H : Hp} (e : Env0 X.prog X.w X.K X.mg X.base X.A X.stack s H) : Env0 X.prog X.w X.K X.mg X.base A X.stack s H :=
  ⟨by rw [sb.fr]; exact e.frames, e.mod, e.bs, e.bsz, e.funs, e.frf, e.hok, e.bare⟩
theorem ext_own {A1 : Around} {n : Nat} {C fi fn a q dx t : Addr} {fl : Str} {fdI fdN : FuncData} {spN : Sp} {gs : List (Str × V)} {zs : List V} {H : Hp} {s : Shared} {Rs : Result → Shared → Prop} (sb : Sub X n A1.in1) (sb2 : Sub X n A1.in1.in1) (hh : A1.handled = none)
    (hit : PySem.W.findIn X.K (.ref C) "__iter__" = some (some (.ref fi))) (hitF : PySem.W.isFn X.K (.ref fi) = true) (hln : PySem.W.findIn X.K (.ref C) "__len__" = some (some (.ref fn))) (hlnF : PySem.W.isFn X.K (.ref fn) = true)
    (FI : FnOk X.prog X.w X.K X.mg X.base (L2N.CX X.prog X.w) n fi fdI ["self"] (spIt X.K C fl)) (bI : Binds X.K fdI ["self"] []) (FN : FnOk X.prog X.w X.K X.mg X.base (L2N.CX X.prog X.w) n fn fdN ["self"] spN) (bN : Binds X.K fdN ["self"] [])
    (I : Inv X pins σ H s) (ha : H a = some (.ins C dx gs)) (hq : H q = some (.lst [])) (hg : gs.lookup fl = some (.ref t)) (hs : SqT X.K H t zs) (young : X.s_0.heap.objs.size ≤ q)
    (hN : ∀ it, H it = none → q < it → spN [.ref a] (upd H it (ItT t it)) (fun v H2 => ∃ k : Int, v = .int k ∧ (0 ≤ k ∧ k ≤ 1000000) ∧ (∀ b u, upd H it (ItT t it) b = some u → H2 b = some u) ∧ ∀ s', Inv X pins σ (upd (ItX.dropH H2 it) q (.lst zs)) s' → Rs (.ok (.ret .none)) s') (fun _ _ _ => False)) :
    wpAny (model X.prog X.w) A1.in1 (Builtin.List.listExtendWith (.ref q) (.ref a) .none)
      (fun fin s' => match fin with | .done f => Rs (.ok f) s' | .again c' => c'.quiet = true ∧ codeAny (model X.prog X.w) A1 c' Rs s') (fun e s' => Rs (.error e) s') s := by
  have hne : q ≠ a := ne_of hq ha (fun z => nomatch z)
  obtain ⟨mA, J0, _⟩ := ins_get I.hok ha
  obtain ⟨od, J0, _⟩ := J0.look
  obtain ⟨m0, hF⟩ := I.fr
  unfold Builtin.List.listExtendWith
  refine wpAny_bind (J0.type.here ?_)
  have h1 : Builtin.List.listSameRef (.ref q) (.ref a) = false := by simp [Builtin.List.listSameRef, hne]
  have h2 : (Value.ref C == Value.type "list") = false := rfl
  have h3 : (Value.ref C == Value.type "tuple") = false := rfl
  simp only [h1, h2, h3, Bool.or_false, Bool.false_eq_true, if_false]
  refine wpAny_bind (PySem.W.owit_iter hF I.ok.mod.kin J0 hit hitF ?_)
  have hspI : spIt X.K C fl [.ref a] H (fun v H' => ∃ it, v = .ref it ∧ H it = none ∧ q < it ∧ H' = upd H it (ItT t it)) (fun _ _ _ => False) := ⟨a, dx, t, gs, zs, rfl, ha, hg, hs, fun it e1 e2 => ⟨it, rfl, e1, e2 _ _ hq, rfl⟩⟩
  have hl := FI.len _ _ _ _ hspI
  have r2 : Vals [V.ref a] [Value.ref a] := .cons rfl .nil
  refine wpAny_call (codeAny_mono (FI.run A1.in1 X.stack s H ⟨[.ref a], []⟩ [.ref a] [.ref a] _ _ sb.room (room_of sb I.env0) (by
    have := bI s [.ref a] I.kIn (by simpa using hl)
    simpa using this) r2 hspI) fun r s' hq' => ?_)
  cases r with
  | error e => exact cx_no hq'
  | ok fl2 =>
    cases fl2 with
    | next => exact False.elim hq'
    | brk => exact False.elim hq'
    | cont => exact False.elim hq'
    | ret u =>
      obtain ⟨v, H', I', rv, it, ev, hitn, hlt, eH⟩ := I.after hq'
      subst ev
      subst eH
      cases rv
      have hob : s'.heap.get? it = some (itTObj t) := (I'.hok it _ upd_same).1
      have hTI : s'.heap.IsTupleIter it t 0 := ⟨_, hob, rfl, rfl⟩
      have ha' : upd H it (ItT t it) a = some (.ins C dx gs) := by rw [upd_ne (fun z => by rw [z, hitn] at ha; cases ha)]; exact ha
      have hqq' : upd H it (ItT t it) q = some (.lst []) := by rw [upd_ne (fun z => by rw [z, hitn] at hq; cases hq)]; exact hq
      unfold PySem.W.OwitIt
      refine wpAny_specialOf (name := "__next__") hTI.typeIs PySem.F.slot_tuple_iterator_next.lookup ?_
      obtain ⟨mA', J', _⟩ := ins_get I'.hok ha'
      obtain ⟨od', J', _⟩ := J'.look
      obtain ⟨m1, hF'⟩ := I'.fr
      refine wpAny_bind (wpAny_holding ?_)
      unfold Builtin.List.listLengthHint
      refine wpAny_bind (wpAny_bind (J'.type.here ((PySem.W.looks_findIn I'.kIn hln).here ?_)))
      refine PySem.W.KFB.if_not rfl ?_
      refine wpAny_ite_split (fun _ => ?_) (fun z => absurd rfl z)
      refine wpAny_bind (wpAny_rule ?_)
      have hspN := hN it hitn hlt
      refine wpAny_bind (wpAny_attempt (PySem.W.len_K hF' I'.ok.mod.kin J' hln hlnF ?_))
      have hl3 := FN.len _ _ _ _ hspN
      refine wpAny_call (codeAny_mono (FN.run A1.in1.in1 X.stack s' _ ⟨[.ref a], []⟩ [.ref a] [.ref a] _ _ sb2.room (room_of sb2 I'.env0) (by
        have := bN s' [.ref a] I'.kIn (by simpa using hl3)
        simpa using this) r2 hspN) fun r3 s2 hq2 => ?_)
      cases r3 with
      | error e => exact cx_no hq2
      | ok fl3 =>
        cases fl3 with
        | next => exact False.elim hq2
        | brk => exact False.elim hq2
        | cont => exact False.elim hq2
        | ret u =>
          obtain ⟨v, H2, I2, rv, k, ev, hk, ext, fin⟩ := I'.after hq2
          subst ev
          obtain ⟨tk, rfl⟩ := rv
          refine ⟨⟨hk.1, by omega⟩, ?_⟩
          refine wpAny_bind (wpAny_pure ?_)
          refine wpAny_ite_split (fun z => ?_) (fun _ => ?_)
          · exfalso
            have : Builtin.List.listTooLong k.toNat = false := notLongL (by rw [sizeLine_eq]; omega)
            rw [this] at z
            cases z
          · refine wpAny_pure ?_
            have I3 : Inv X pins σ H2 { s2 with toks := s2.toks + 1 } := I2.tok _
            have hI : H2 it = some (ItT t it) := ext it _ upd_same
            have hob2 : s2.heap.get? it = some (itTObj t) := (I3.hok it _ hI).1
            have hTI2 : s2.heap.IsTupleIter it t 0 := ⟨_, hob2, rfl, rfl⟩
            have I4 : Inv X pins σ (ItX.dropH H2 it) { s2 with toks := s2.toks + 1 } := ItX.inv_drop I3 hI
            have hf4 : FpOk X pins (ItX.dropH H2 it) it := ItX.inv_fp I3 hI (Nat.le_trans young (Nat.le_of_lt hlt))
            have ex4 : ∀ b u, H b = some u → ItX.dropH H2 it b = some u := fun b u eb => by
              have nb : b ≠ it := fun z => by rw [z, hitn] at eb; cases eb
              rw [ItX.dropH_ne nb]
              exact ext b u (by rw [upd_ne nb]; exact eb)
            have nq : it ≠ q := fun z => by rw [z, hq] at hitn; cases hitn
            obtain ⟨its, rv4, ht4, hz4⟩ := I4.tuple (hs.ext ex4)
            have ht5 : s2.heap.IsTuple t its.toArray := ht4
            have nt : t ≠ it := fun z => by
              obtain ⟨o1, ho1, hc1, _⟩ := id ht5
              rw [z] at ho1
              have e9 : some (itTObj t) = some o1 := hob2.symm.trans ho1
              cases e9
              exact Value.noConfusion hc1 fun z => absurd z (by decide)
            have ntq : t ≠ q := fun z => by
              obtain ⟨o1, ho1, hc1, _⟩ := id ht5
              obtain ⟨_, its9, k9, _, _, e9⟩ := I4.lstM (ex4 _ _ hq)
              rw [z] at ho1
              have e8 := e9.symm.trans ho1
              cases e8
              exact Value.noConfusion hc1 fun z => absurd z (by decide)
            have hq4 : ItX.dropH H2 it q = some (.lst []) := ex4 _ _ hq
            have hH : upd (ItX.dropH H2 it) q (.lst []) = ItX.dropH H2 it := by
              funext b
              by_cases hb : b = q
              · rw [hb, upd_same, hq4]
              · rw [upd_ne hb]
            have lz := rv4.length
            have go : ∀ s4, Inv X pins σ (ItX.dropH H2 it) s4 → s4.heap.IsTupleIter it t 0 → s4.heap.IsTuple t its.toArray → codeAny (model X.prog X.w) A1 (.builtin "list.extend.loop" ⟨[.ref q, .ref it, .none], []⟩) Rs s4 := fun s4 I5 h5 h6 =>
              it_loop hh rv4 nt nq ntq (by omega) fin its.length 0 s4 rfl (by rw [List.take_zero, hH]; exact I5) hf4 h5 h6
            refine wpAny_ite_split (fun _ => ?_) (fun _ => wpAny_pure ⟨plainId_quiet PySem.F.plain_extend_loop _, go _ I4 hTI2 ht4⟩)
            obtain ⟨z, its5, k5, r5, hl5, e5⟩ := I4.lstM hq4
            cases r5
            refine wpAny_bind (wpAny_rule ?_)
            refine wpAny_bind ?_
            show wpAny _ _ (updateSeq q (·.push .none) >>= fun _ => updateSeq q (·.pop)) _ _ _
            refine wpAny_bind (wpAny_updateSeq e5 rfl ?_)
            have I6 := I4.lset (f := (·.push Value.none)) (its' := [Value.none]) (ys := [.non]) (t' := s2.toks + 1) hq4 e5 (by simp) (.cons rfl .nil) (by rw [List.length_singleton, sizeLine_eq]; decide)
            obtain ⟨z4, its6, k6, r6, hl6, e6⟩ := I6.lstM upd_same
            obtain ⟨u4, rfl, ru4⟩ := r6.one
            refine wpAny_updateSeq e6 rfl ?_ (by show 1 ≤ sizeLine; rw [sizeLine_eq]; decide) (by show 0 ≤ sizeLine + 1; exact Nat.zero_le _)
            have I7 := I6.lset (f := (·.pop)) (its := [u4]) (its' := []) (ys := []) (t' := s2.toks + 1) upd_same e6 (by rfl) .nil (Nat.zero_le _)
            rw [upd_upd, hH] at I7
            refine wpAny_pure ⟨plainId_quiet PySem.F.plain_extend_loop _, go _ I7 ?_ ?_⟩
            · exact (hTI2.at fun o eo => (Heap.get?_update_other _ _ (Ne.symm nq)).trans eo).at fun o eo => (Heap.get?_update_other _ _ (Ne.symm nq)).trans eo
            · exact (ht5.at fun o eo => (Heap.get?_update_other _ _ (Ne.symm ntq)).trans eo).at fun o eo => (Heap.get?_update_other _ _ (Ne.symm ntq)).trans eo
end
/-- list(o) -/
def rLs (K : PySem.W.Frag) (C : Addr) (fl : Str) (spN : Sp) : List V → Hp → VK → Prop := fun xs H Q => ∃ (a dx t : Addr) (gs : List (Str × V)) (zs : List V), xs = [V.ref a] ∧ H a = some (.ins C dx gs) ∧ gs.lookup fl = some (.ref t) ∧ SqT K H t zs ∧
  ∀ (q it : Addr) (R : V → Hp → Prop), H q = none → H it = none → q < it → (∀ (k : Int) (H2 : Hp), (0 ≤ k ∧ k ≤ 1000000) → (∀ b u, upd (upd H q (.lst [])) it (ItT t it) b = some u → H2 b = some u) → Q (.ref q) (upd (ItX.dropH H2 it) q (.lst zs)) → R (.int k) H2) → spN [.ref a] (upd (upd H q (.lst [])) it (ItT t it)) R (fun _ _ _ => False)
theorem cr_ls {n : Nat} {C fi fn : Addr} {fl : Str} {fdI fdN : FuncData} {spN : Sp} (hc : X.calm = true) (hr : Room (n + 3) X.A)
    (hit : PySem.W.findIn X.K (.ref C) "__iter__" = some (some (.ref fi))) (hitF : PySem.W.isFn X.K (.ref fi) = true) (hln : PySem.W.findIn X.K (.ref C) "__len__" = some (some (.ref fn))) (hlnF : PySem.W.isFn X.K (.ref fn) = true)
    (FI : FnOk X.prog X.w X.K X.mg X.base (L2N.CX X.prog X.w) n fi fdI ["self"] (spIt X.K C fl)) (bI : Binds X.K fdI ["self"] []) (FN : FnOk X.prog X.w X.K X.mg X.base (L2N.CX X.prog X.w) n fn fdN ["self"] spN) (bN : Binds X.K fdN ["self"] []) :
    CallR X (.type "list") (rLs X.K C fl spN) := by
  intro pins s σ H xs us Q I rv h
  obtain ⟨a, dx, t, gs, zs, rfl, ha, hg, hs, hq⟩ := h
  obtain ⟨u, rfl, ru⟩ := rv.one
  cases ru
  have sb0 : Sub X (n + 3) X.A := ⟨hr, rfl⟩
  have sb : Sub X n X.A.in1.in1 := (Sub.in1 (Sub.in1 sb0)).mono (Nat.le_succ n)
  have sb2 : Sub X n X.A.in1.in1.in1 := Sub.in1 (Sub.in1 (Sub.in1 sb0))
  refine callType_codes (Q₁ := fun obj s₁ => obj = .ref s.heap.objs.size ∧ s₁ = { s with heap := s.heap.push { cls := .type "list", data := .seq #[] } }) PySem.F.called_list (PySem.F.typeCall_list_1 _) PySem.F.entry_list_init
    (code_list_new _ ⟨rfl, rfl⟩) fun obj s₁ h₁ => ?_
  obtain ⟨rfl, rfl⟩ := h₁
  have hS : (s.heap.push { cls := .type "list", data := .seq #[] }).get? s.heap.objs.size = some { cls := .type "list", data := .seq #[] } := Heap.get?_push_size _ rfl
  refine ⟨⟨_, hS, rfl⟩, PySem.F.args_list_init_2 _ _, ?_⟩
  have fr : H s.heap.objs.size = none := I.hok.fresh (Nat.le_refl _)
  have I1 : Inv X pins σ (upd H s.heap.objs.size (.lst [])) { s with heap := s.heap.push { cls := .type "list", data := .seq #[] } } := I.lnew (its := []) (t' := s.toks) .nil (Nat.zero_le _)
  show wpAny _ _ (do let old ← Builtin.List.listItems (.ref s.heap.objs.size); Builtin.List.listUpdate (.ref s.heap.objs.size) (fun _ => #[]); letGo old.toList.reverse; Builtin.List.listExtendWith (.ref s.heap.objs.size) (.ref a) .none) _ _ _
  refine wpAny_bind ?_
  unfold Builtin.List.listItems
  refine wpAny_bind (wpAny_seqItems hS rfl (wpAny_pure ?_))
  show wpAny _ _ (updateSeq s.heap.objs.size (fun _ => #[]) >>= fun _ => letGo (#[] : Array Value).toList.reverse >>= fun _ => Builtin.List.listExtendWith (.ref s.heap.objs.size) (.ref a) .none) _ _ _
  refine wpAny_bind (wpAny_updateSeq hS rfl ?_)
  have I2 := I1.lset (f := fun _ => #[]) (its := []) (its' := []) (ys := []) (t' := s.toks) upd_same hS rfl .nil (Nat.zero_le _)
  rw [upd_upd] at I2
  refine wpAny_bind (wpAny_letGo ?_)
  have ha2 : upd H s.heap.objs.size (.lst []) a = some (.ins C dx gs) := by rw [upd_ne (ne_of_none ha fr)]; exact ha
  have ex : ∀ b u, H b = some u → upd H s.heap.objs.size (.lst []) b = some u := fun b u e => by rw [upd_ne (ne_of_none e fr)]; exact e
  refine ext_own (A1 := X.A.in1) (Rs := wants (fun r s₂ => r = .none ∧ EP X pins σ Q (.ref s.heap.objs.size) s₂) X.xe) sb sb2 (I.ok.hd hc) hit hitF hln hlnF FI bI FN bN I2 ha2 upd_same hg (hs.ext ex) I.sz fun it h1 h2 => ?_
  have hit0 : H it = none := by
    cases e : H it with
    | none => rfl
    | some u =>
      rw [ex it u e] at h1
      cases h1
  exact hq s.heap.objs.size it _ fr hit0 h2 fun k H2 hk e q => ⟨k, rfl, hk, e, fun s' I' => ⟨rfl, .ref s.heap.objs.size, _, I', rfl, q⟩⟩
section
variable {α β : Type} {S : List Sl} {enc : α → D} {enb : β → D} {a : Expr} {pos p : Pos} {k j : Nat}
def lsO (n : Int) (xs : List β) : M (List β) := if 0 ≤ n ∧ n ≤ 1000000 then .ok xs else .no
theorem o_listObj {m : M α} {Cn fl : Str} {fi fn : Addr} {fdI fdN : FuncData} {fs : α → List (Str × D)} {g : α → List β} {code : α → M Int} (C : CxD X J k) (hj : j + 3 ≤ k) (hj1 : 1 ≤ j) (hm : X.mg "list" = none)
    (hit : PySem.W.findIn X.K (.ref (J.ca Cn)) "__iter__" = some (some (.ref fi))) (hitF : PySem.W.isFn X.K (.ref fi) = true) (hln : PySem.W.findIn X.K (.ref (J.ca Cn)) "__len__" = some (some (.ref fn))) (hlnF : PySem.W.isFn X.K (.ref fn) = true)
    (FI : FnOk X.prog X.w X.K X.mg X.base (L2N.CX X.prog X.w) 1 fi fdI ["self"] (spIt X.K (J.ca Cn) fl)) (bI : Binds X.K fdI ["self"] []) (FN : FnOk X.prog X.w X.K X.mg X.base (L2N.CX X.prog X.w) j fn fdN ["self"] (spE X.K J.ca (xC enc xN) eI fun a => code a.1)) (bN : Binds X.K fdN ["self"] [])
    (hd : ∀ z, enc z = .obj Cn (fs z) ∧ ∃ dd, (fs z).lookup fl = some dd ∧ ∀ {H : Hp} {v : V}, Den X.K J.ca H v dd → Den X.K J.ca H v (eT enb (g z))) (hne : ∀ z y, code z ≠ .er y) (h : PA X [a] (tCons (tE X J S enc m) tNil)) (hg : Gl X "list" := by rfl)
    (he : starEach (a :: []) X.env = (false, eval a X.env) :: starEach [] X.env := by rfl) (hpl : (backTo pos (starEach [] X.env)).any (·.1) = false := by rfl) :
    DO X J S (.Call (.Name "list" p) [a] [] pos) enb (mb m fun z => mb (code z) fun n => lsO n (g z)) :=
  pe_imp (pe_callTy (cr_ls C.calm (C.room.mono hj) hit hitF hln hlnF (FI.mono hj1) bI FN bN) hg hm boot_list h (by decide) (by decide) he hpl) fun σ H Q ⟨G, own, ok, fin⟩ => E_bind FinO.wish ok fin fun z v G1 H1 g1 ok1 d r => by
    have d' := d
    rw [(hd z).1] at d
    cases d with
    | obj hq hF =>
      obtain ⟨dd, hl, hT⟩ := (hd z).2
      obtain ⟨w, e1, e2⟩ := hF.lookup hl
      obtain ⟨t, zs, rfl, h1, h2⟩ := Den.tuple (X := X) ok1.gh (hT e2)
      refine ⟨_, _, t, _, zs, rfl, ok1.gh _ _ hq, e1, h1, fun q it R hq0 hi0 hlt hR => ?_⟩
      have nqi : q ≠ it := Nat.ne_of_lt hlt
      have up : ∀ b o, H1 b = some o → upd (upd H1 q (.lst [])) it (ItT t it) b = some o := fun b o e => by
        rw [upd_ne (fun z => by rw [z, hi0] at e; cases e), upd_ne (fun z => by rw [z, hq0] at e; cases e)]
        exact e
      have sg : Same G1 (upd (upd H1 q (.lst [])) it (ItT t it)) := fun b o e => up b o (ok1.gh b o e)
      refine ⟨(z, ()), G1, sg, .cons d' .nil, ?_⟩
      show spR X.K J.ca G1 _ (mb (code z) _) R _
      cases hcz : code z with
      | no => rw [hcz] at r; exact r.elim
      | er y => exact absurd hcz (hne z y)
      | ok n =>
        rw [hcz] at r
        intro v G' H2 gr dv
        cases dv
        by_cases hn : 0 ≤ n ∧ n ≤ 1000000
        · have r' : FinO X J enb (if 0 ≤ n ∧ n ≤ 1000000 then M.ok (g z) else .no) σ G1 H1 Q := r
          rw [if_pos hn] at r'
          have gi : G' it = none := by
            rw [gr.n it (by rw [upd_same]; simp)]
            cases e : G1 it with
            | none => rfl
            | some o => rw [ok1.gh it o e] at hi0; cases hi0
          have gq : G' q = none := by
            rw [gr.n q (by rw [upd_ne nqi, upd_same]; simp)]
            cases e : G1 q with
            | none => rfl
            | some o => rw [ok1.gh q o e] at hq0; cases hq0
          refine hR n H2 hn (fun b u e => gr.h b u e) (r' q zs G' _ ⟨gr.g, fun b o e => ?_, fun b o e => ?_, fun b hb => gr.n b fun z => ?_⟩ hq0 upd_same gq (h2.mono gr.g))
          · rw [upd_ne (fun z => by rw [z, hq0] at e; cases e), ItX.dropH_ne (fun z => by rw [z, hi0] at e; cases e)]
            exact gr.h b o (up b o e)
          · rw [upd_ne (fun z => by rw [z, gq] at e; cases e), ItX.dropH_ne (fun z => by rw [z, gi] at e; cases e)]
            exact gr.gh b o e
          · cases e : H1 b with
            | none => exact hb e
            | some o => rw [up b o e] at z; cases z
        · have r' : FinO X J enb (if 0 ≤ n ∧ n ≤ 1000000 then M.ok (g z) else .no) σ G1 H1 Q := r
          rw [if_neg hn] at r'
          exact r'.elim
end
/-- k in x as a test -/
theorem t_din {α : Type} {S : List Sl} {k : Nat} {pos : Pos} {mi : M Int} {kvs : List (Int × α)} {x : Str} {ie : Expr} {px : Pos} {vd : α → V} (C : CxD X J k) (i : Nat) (hs : S[i]? = some (.dk (kvV vd kvs))) (hp : PE X (.Name x px) (tVar i)) (hi : DE X J S ie eI mi) (hb : behindInMarks .In (.Name x px) = false := by rfl) :
    DT X J S (.Compare ie [.In] [.Name x px] pos) (mb mi fun j => .ok (getA kvs j).isSome) :=
  pt_imp (pt_cmp (pc_din (by have := C.room.units; omega) hi hp) hb) fun σ H Q ⟨G, own, ok, fin⟩ => E_bind FinT.wish ok fin fun y u G2 H2 g2 ok2 d2 r2 => by
    cases d2
    obtain ⟨q, q1, q2, q3⟩ := ok2.sl i _ hs
    have dg := DGet.k (k := Sum.inl y) q3
    have e := get_hk vd y kvs
    unfold hkV at e
    rw [e] at dg
    refine ⟨.ref q, q1, q, _, rfl, dg, _, rfl, ?_⟩
    rw [Option.isSome_map]
    exact r2 G2 H2 (Grow.refl ok2.gh)
end DL

namespace DL
open PySem PySem.Spec PyProof.Rows L2
variable {X : Cx} {J : Jx}
section
variable {α β γ δ ρ : Type} {S : List Sl} {N : β → List Sl} {L : γ → List Sl} {R : ρ → RV} {enc : α → D} {pos p : Pos} {k j : Nat} {rest body : List Stmt}
/-- x.clear() -/
theorem ss_clear {m : M (Out β γ ρ)} {xs : List α} {x : Str} {px p2 pos2 : Pos} (i : Nat) (hs : S[i]? = some (.ow (xs.map enc))) (hr : DSs X J (S.set i (.ow (([] : List α).map enc))) rest N L R m)
    (hb : PE X (.Call (.Attribute (.Name x px) "clear" p2) [] [] pos2) (tBM0 X.K "list" rClear (tVar i)))
    (hsw : swapsWith (.Call (.Attribute (.Name x px) "clear" p2) [] [] pos2) none pos.line X.env = pure false := by rfl) :
    DSs X J S (.Expr (.Call (.Attribute (.Name x px) "clear" p2) [] [] pos2) pos :: rest) N L R m :=
  pss_imp (pss_cons (ps_expr hb hsw) hr) fun Dn σ H ⟨G, own, ok, fin⟩ => by
    obtain ⟨q, vs, h1, h2, h3, h4⟩ := ok.sl i _ hs
    exact ⟨.ref q, h1, .inl ⟨rfl, _, SqL.of h3⟩, q, vs, rfl, rfl, h3, G, own, ok.mut h3 h2 .nil h1, fin⟩
end
/-! ### any, all of a list of bools; a whole number at the top -/
section
variable {S : List Sl} {a : Expr} {pos p : Pos}
theorem e_anyL {m : M (List Bool)} (hc : X.calm = true) (hm : X.mg "any" = none) (h : PA X [a] (tCons (tEb X J S (eL eB) m) tNil)) (hg : Gl X "any" := by rfl)
    (he : starEach (a :: []) X.env = (false, eval a X.env) :: starEach [] X.env := by rfl) (hpl : (backTo pos (starEach [] X.env)).any (·.1) = false := by rfl) : DE X J S (.Call (.Name "any" p) [a] [] pos) eB (mb m fun xs => .ok (xs.any id)) :=
  pe_imp (pe_callB (cr_any hc) hg hm (by decide +kernel) h (by decide) (by decide) he hpl) fun σ H Q ⟨G, own, ok, fin⟩ => B_bind Fin.wish ok fin fun xs v G1 H1 g ok1 d r => by
    obtain ⟨q, vs, rfl, h1, h2⟩ := DenB.list ok1.gh d
    rw [DenL.bls h2] at h1
    exact ⟨q, xs, rfl, SqL.of h1, r _ G1 H1 (Grow.refl ok1.gh) (.bl _)⟩
theorem e_allL {m : M (List Bool)} (hc : X.calm = true) (hm : X.mg "all" = none) (h : PA X [a] (tCons (tEb X J S (eL eB) m) tNil)) (hg : Gl X "all" := by rfl)
    (he : starEach (a :: []) X.env = (false, eval a X.env) :: starEach [] X.env := by rfl) (hpl : (backTo pos (starEach [] X.env)).any (·.1) = false := by rfl) : DE X J S (.Call (.Name "all" p) [a] [] pos) eB (mb m fun xs => .ok (xs.all id)) :=
  pe_imp (pe_callB (cr_all hc) hg hm (by decide +kernel) h (by decide) (by decide) he hpl) fun σ H Q ⟨G, own, ok, fin⟩ => B_bind Fin.wish ok fin fun xs v G1 H1 g ok1 d r => by
    obtain ⟨q, vs, rfl, h1, h2⟩ := DenB.list ok1.gh d
    rw [DenL.bls h2] at h1
    exact ⟨q, xs, rfl, SqL.of h1, r _ G1 H1 (Grow.refl ok1.gh) (.bl _)⟩
theorem e_gint {x : Str} {i : Int} (hm : ∃ t, X.mg x = some (.int i t)) (hg : Gl X x := by rfl) (hd : (x == ("__debug__" : Str)) = false := by decide) : DE X J S (.Name x pos) eI (.ok i) := by
  obtain ⟨t, hm⟩ := hm
  exact pe_imp (pe_glob (v := .int i) hg hm ⟨t, rfl⟩ hd) fun σ H Q ⟨G, own, ok, fin⟩ => fin _ G H (Grow.refl ok.gh) (.int _)
end
/-! ### x in xs, items of any shape -/
section
/-- x stands in xs -/
def memB {α : Type} [DecidableEq α] (x : α) (xs : List α) : Bool := decide (x ∈ xs)
theorem inD_any {α : Type} [DecidableEq α] {enc : α → D} {pd : α → PyData} {n : Nat} (h : PdE enc pd n) (x : α) : ∀ xs : List α, ((xs.map pd).any fun z => PyData.eqv z (pd x)) = memB x xs
  | [] => rfl
  | y :: ys => by
    rw [List.map_cons, List.any_cons, inD_any h x ys, Bool.eq_iff_iff]
    unfold memB
    simp only [Bool.or_eq_true, decide_eq_true_eq, List.mem_cons, h.eq]
    exact ⟨fun e => e.imp Eq.symm id, fun e => e.imp Eq.symm id⟩
theorem c_inD {α : Type} [DecidableEq α] {enc : α → D} {pd : α → PyData} {n : Nat} (h : PdE enc pd n) (h2 : PdE (eL enc) (fun xs => .list (xs.map pd)) (n + 1)) (hn : n + 1 ≤ 64) (hu : X.A.units + 65 < cLine) : CmpD X J .In enc (eL enc) fun x xs => memB x xs := ⟨_, op_inD hu, fun x y v u G H own Q sg d1 d2 q => by
  have sh : ∀ z, SeqAt.shaped (pd z) = true := fun z => by
    unfold SeqAt.shaped
    rw [h.lay, decide_eq_true (Nat.le_trans (h.dep z) (by omega))]; rfl
  have sh2 : SeqAt.shaped (.list (y.map pd)) = true := by
    unfold SeqAt.shaped
    rw [h2.lay y, decide_eq_true (Nat.le_trans (h2.dep y) hn)]; rfl
  refine ⟨pd x, y.map pd, d1.dp h sg, DenB.dp (pd := fun xs => PyData.list (xs.map pd)) (x := y) h2 sg d2, sh x, sh2, ?_⟩
  rw [inD_any h]
  exact q⟩
theorem c_notInD {α : Type} [DecidableEq α] {enc : α → D} {pd : α → PyData} {n : Nat} (h : PdE enc pd n) (h2 : PdE (eL enc) (fun xs => .list (xs.map pd)) (n + 1)) (hn : n + 1 ≤ 64) (hu : X.A.units + 65 < cLine) : CmpD X J .NotIn enc (eL enc) fun x xs => !memB x xs := ⟨_, op_notInD hu, fun x y v u G H own Q sg d1 d2 q => by
  have sh : ∀ z, SeqAt.shaped (pd z) = true := fun z => by
    unfold SeqAt.shaped
    rw [h.lay, decide_eq_true (Nat.le_trans (h.dep z) (by omega))]; rfl
  have sh2 : SeqAt.shaped (.list (y.map pd)) = true := by
    unfold SeqAt.shaped
    rw [h2.lay y, decide_eq_true (Nat.le_trans (h2.dep y) hn)]; rfl
  refine ⟨pd x, y.map pd, d1.dp h sg, DenB.dp (pd := fun xs => PyData.list (xs.map pd)) (x := y) h2 sg d2, sh x, sh2, ?_⟩
  rw [inD_any h]
  exact q⟩
end
end DL

namespace DL
open PySem PySem.Spec PyProof.Rows L2
variable {X : Cx} {J : Jx}
/-! ### == by an own __eq__, from either side -/
section
variable {C f : Addr} {fd : FuncData} {n : Nat} {ps : List Str} {sp : Sp}
/-- what stands on the other side -/
def OthR (K : PySem.W.Frag) (C : Addr) (H : Hp) (y : V) : Prop := (∃ b dy hs, y = .ref b ∧ H b = some (.ins C dy hs)) ∨ ∃ b zs, y = .ref b ∧ SqT K H b zs
def rEqO (K : PySem.W.Frag) (C : Addr) (sp : Sp) : R2 := fun x y H Q => ∃ a dx gs, x = .ref a ∧ H a = some (.ins C dx gs) ∧ OthR K C H y ∧ sp [x, y] H (fun v H' => ∃ c, v = .bl c ∧ Q (.bl c) H') (fun _ _ _ => False)
theorem tupT {pins : List (Addr × Obj)} {σ : L2.St} {H : Hp} {s : Shared} {b : Addr} {zs : List V} (I : Inv X pins σ H s) (h : SqT X.K H b zs) : s.TypeIs (.ref b) "tuple" := by
  obtain ⟨its, _, ⟨o, e, c, _⟩, _⟩ := I.tuple h
  exact ⟨o, e, c⟩
theorem op_eqO (hs : PySem.W.findIn X.K (.ref C) "__eq__" = some (some (.ref f))) (hf : PySem.W.isFn X.K (.ref f) = true) (F : FnOk X.prog X.w X.K X.mg X.base (L2N.CX X.prog X.w) n f fd ps sp) (hb : Binds X.K fd ps [])
    (hr : Room n X.A) (tk : L2N.Takes X J.W) (hn : PySem.W.notFirst X.K C (.type "tuple") = true) : OpR X (compareOp .Eq) (rEqO X.K C sp) := by
  intro pins s σ H x y v u Q I rx ry h
  obtain ⟨a, dx, gs, rfl, ha, oth, q⟩ := h
  cases (show v = Value.ref a from rx)
  obtain ⟨mA, J0, _⟩ := ins_get I.hok ha
  obtain ⟨od, J0, _⟩ := J0.look
  obtain ⟨m, hF⟩ := I.fr
  have go : ∀ {b : Addr} {tb : Value}, y = .ref b → u = Value.ref b → PySem.W.Looks (model X.prog X.w) s.heap (typeOf (.ref b)) tb → PySem.W.notFirst X.K C tb = true → wpAny (model X.prog X.w) X.A (compareOp .Eq (.ref a) u) (EP X pins σ Q) X.xe s := by
    intro b tb ey eu lk nf
    subst ey eu
    show wpAny _ _ (richCompare .Eq (.ref a) (.ref b)) _ _ _
    refine PySem.W.cmp_K (op := .Eq) (tb := tb) hr.units0 hF I.ok.mod.kin J0 lk nf hs hf ?_
    have hl := F.len _ _ _ _ q
    have r2 : Vals [V.ref a, V.ref b] [Value.ref a, Value.ref b] := .cons rfl (.cons rfl .nil)
    refine wpAny_call (codeAny_mono (F.run X.A X.stack s H ⟨[.ref a, .ref b], []⟩ [.ref a, .ref b] [.ref a, .ref b] _ _ hr I.env0 (by
      have := hb s [.ref a, .ref b] I.kIn (by simpa using hl)
      simpa using this) r2 q) fun r s' hq => ?_)
    cases r with
    | error e => exact (pass_no (hx := tk) pins σ H s e s' I hq)
    | ok fl =>
      cases fl with
      | ret w =>
        obtain ⟨z, H', I', rz, c, ez, qz⟩ := I.after hq
        subst ez
        cases rz
        exact ⟨.bl c, H', I', rfl, qz⟩
      | next => exact False.elim hq
      | brk => exact False.elim hq
      | cont => exact False.elim hq
  rcases oth with ⟨b, dy, hs', ey, hb'⟩ | ⟨b, zs, ey, hz⟩
  · subst ey
    obtain ⟨mB, J', _⟩ := ins_get I.hok hb'
    obtain ⟨od', J', _⟩ := J'.look
    exact go rfl ry J'.type (by simp [PySem.W.notFirst])
  · subst ey
    obtain ⟨its, _, ⟨o, e, c, _⟩, _⟩ := I.tuple hz
    exact go rfl ry (fun A Q E s k q => wpAny_typeOf_ref (k _ _ e) (by rw [c]; exact q)) hn
/-- tuple == an instance: tuple.__eq__ declines -/
theorem tup_declines {A : Around} {pins : List (Addr × Obj)} {σ : L2.St} {H : Hp} {s : Shared} {t a dx : Addr} {zs : List V} {gs : List (Str × V)} {Q : Value → Shared → Prop} {E : Value → Shared → Prop} (I : Inv X pins σ H s) (ht : SqT X.K H t zs) (ha : H a = some (.ins C dx gs))
    (hsub : PySem.W.subIn X.K (.ref C) (.type "tuple") = some false) (q : Q .notImplemented s) : wpAny (model X.prog X.w) A (call (.builtin "tuple.__eq__") [.ref t, .ref a]) Q E s := by
  obtain ⟨mA, J0, _⟩ := ins_get I.hok ha
  obtain ⟨od, J0, _⟩ := J0.look
  have slot := PySem.F.slot_tuple_eq
  refine wpAny_call (codeAny_call_builtin slot.plain PySem.F.entry_tuple_eq (slot.check _ _ _ _ _ _ _ _ (tupT I ht) (PySem.F.args_tuple_eq_2 _ _) ?_))
  have di : PySem.W.Looks (model X.prog X.w) s.heap (isInstance (.ref a) (.type "tuple")) false := J0.type.andThen (PySem.W.looks_subIn I.kIn hsub)
  unfold Builtin.«tuple.__eq__»
  refine wpAny_bind (m := slotArgs "__eq__" 1 ⟨[.ref t, .ref a], []⟩) (wpAny_pure (a := (Value.ref t, [Value.ref a])) ?_)
  refine wpAny_bind (di.here ?_)
  exact wpAny_pure q
def rEqR (K : PySem.W.Frag) (C : Addr) (sp : Sp) : R2 := fun x y H Q => ∃ a dx gs t zs, x = .ref t ∧ y = .ref a ∧ H a = some (.ins C dx gs) ∧ SqT K H t zs ∧ sp [y, x] H (fun v H' => ∃ c, v = .bl c ∧ Q (.bl c) H') (fun _ _ _ => False)
theorem op_eqR (hs : PySem.W.findIn X.K (.ref C) "__eq__" = some (some (.ref f))) (hf : PySem.W.isFn X.K (.ref f) = true) (F : FnOk X.prog X.w X.K X.mg X.base (L2N.CX X.prog X.w) n f fd ps sp) (hb : Binds X.K fd ps [])
    (hr : Room n X.A) (tk : L2N.Takes X J.W) (hsub : PySem.W.subIn X.K (.ref C) (.type "tuple") = some false) : OpR X (compareOp .Eq) (rEqR X.K C sp) := by
  intro pins s σ H x y v u Q I rx ry h
  obtain ⟨a, dx, gs, t, zs, rfl, rfl, ha, ht, q⟩ := h
  cases (show v = Value.ref t from rx)
  cases (show u = Value.ref a from ry)
  obtain ⟨mA, J0, _⟩ := ins_get I.hok ha
  obtain ⟨od, J0, _⟩ := J0.look
  show wpAny _ _ (richCompare .Eq (.ref t) (.ref a)) _ _ _
  unfold richCompare
  simp only [oneThing_ref]
  refine wpAny_holding (wpAny_bind (wpAny_cRoomFor hr.units0 ?_))
  refine wpAny_bind (wpAny_typeOf (tupT I ht) (wpAny_bind (J0.type.here ?_)))
  refine wpAny_bind ((PySem.W.looks_subIn I.kIn hsub).here ?_)
  simp only [Bool.false_eq_true, if_false, Bool.not_false, if_true]
  refine wpAny_bind (m := tryCompare _ _ _) (wpAny_tryCompare_declines (tupT I ht) PySem.F.slot_tuple_eq (tup_declines I ht ha hsub ⟨rfl, ?_⟩))
  have hl := F.len _ _ _ _ q
  have r2 : Vals [V.ref a, V.ref t] [Value.ref a, Value.ref t] := .cons rfl (.cons rfl .nil)
  refine wpAny_bind (m := tryCompare _ _ _) ?_
  unfold tryCompare
  refine wpAny_bind (PySem.W.ifBound_K I.kIn J0 hs hf ?_)
  refine wpAny_call (codeAny_mono (F.run X.A X.stack s H ⟨[.ref a, .ref t], []⟩ [.ref a, .ref t] [.ref a, .ref t] _ _ hr I.env0 (by
    have := hb s [.ref a, .ref t] I.kIn (by simpa using hl)
    simpa using this) r2 q) fun r s' hq => ?_)
  cases r with
  | error e => exact (pass_no (hx := tk) pins σ H s e s' I hq)
  | ok fl =>
    cases fl with
    | ret w =>
      obtain ⟨z, H', I', rz, c, ez, qz⟩ := I.after hq
      subst ez
      cases rz
      exact wpAny_pure (wpAny_pure ⟨.bl c, H', I', rfl, qz⟩)
    | next => exact False.elim hq
    | brk => exact False.elim hq
    | cont => exact False.elim hq
end
section
variable {α β γ : Type} {S : List Sl} {enc : α → D} {enb : β → D} {a b : Expr} {pos : Pos} {k j : Nat} {f : Addr} {fd : FuncData} {Cn : Str} {fs : α → List (Str × D)}
/-- a def of two that answers a bool, called on what x and y stand for -/
theorem sp_eq {G H : Hp} {v u : V} {x : α} {y : β} {code : α → β → M Bool} {Q : V → Hp → Prop} (sg : Same G H) (dx : Den X.K J.ca G v (enc x)) (dy : Den X.K J.ca G u (enb y)) (hne : ∀ x y e, code x y ≠ .er e)
    (h : ∀ c, code x y = .ok c → ∀ G' H', Grow G H G' H' → Q (.bl c) H') (hno : code x y ≠ .no) :
    spE X.K J.ca (xC enc (xC enb xN)) eB (fun a => code a.1 a.2.1) [v, u] H (fun v H' => ∃ c, v = .bl c ∧ Q (.bl c) H') (fun _ _ _ => False) := by
  refine ⟨(x, (y, ())), G, sg, .cons dx (.cons dy .nil), ?_⟩
  show spR X.K J.ca G H (mb (code x y) _) _ _
  cases hc : code x y with
  | no => exact (hno hc).elim
  | er e => exact (hne _ _ _ hc).elim
  | ok c =>
    intro v' G' H' g dv
    cases dv
    exact ⟨c, rfl, h c hc G' H' g⟩
/-- x == y, x of a class with an own __eq__, y of it too or a tuple -/
theorem e_eqO {m : M α} {n : M β} {code : α → β → M Bool} (C : CxD X J k) (hj : j ≤ k) (hs : PySem.W.findIn X.K (.ref (J.ca Cn)) "__eq__" = some (some (.ref f))) (hf : PySem.W.isFn X.K (.ref f) = true)
    (F : FnOk X.prog X.w X.K X.mg X.base (L2N.CX X.prog X.w) j f fd ["self", "other"] (spE X.K J.ca (xC enc (xC enb xN)) eB fun a => code a.1 a.2.1)) (hb : Binds X.K fd ["self", "other"] []) (hd : ∀ z, enc z = .obj Cn (fs z))
    (ho : (∀ y, ∃ gs, enb y = .obj Cn gs) ∨ ∀ y, ∃ ds, enb y = .tup ds) (hne : ∀ x y e, code x y ≠ .er e) (hn : PySem.W.notFirst X.K (J.ca Cn) (.type "tuple") = true) (ha : DE X J S a enc m) (hb2 : DE X J S b enb n) (hm : behindInMarks .Eq b = false) :
    DE X J S (.Compare a [.Eq] [b] pos) eB (mb m fun x => mb n fun y => code x y) :=
  pe_imp (pe_cmpR (op_eqO hs hf F hb (C.room.mono hj) C.tk hn) ha hb2 hm) fun σ H Q ⟨G, own, ok, fin⟩ => E_bind Fin.wish ok fin fun x v G1 H1 g1 ok1 d1 r1 => E_bind Fin.wish ok1 r1 fun y u G2 H2 g2 ok2 d2 r2 => by
    have d1' := d1.mono g2.g
    have d1o := d1'
    rw [hd x] at d1o
    cases d1o with
    | obj hq hF =>
      refine ⟨_, _, _, rfl, ok2.gh _ _ hq, ?_, sp_eq ok2.gh d1' d2 hne (fun c hc G' H' g => ?_) (fun hc => ?_)⟩
      · rcases ho with ho | ho
        · obtain ⟨gs, e⟩ := ho y
          rw [e] at d2
          cases d2 with
          | obj hq2 _ => exact .inl ⟨_, _, _, rfl, ok2.gh _ _ hq2⟩
        · obtain ⟨ds, e⟩ := ho y
          rw [e] at d2
          obtain ⟨q, vs, e1, h1, _⟩ := Den.tuple (X := X) ok2.gh d2
          exact .inr ⟨q, vs, e1, h1⟩
      · rw [hc] at r2
        exact r2 _ G' H' g (.bl c)
      · rw [hc] at r2
        exact r2.elim
/-- y == x, y a tuple, x of a class with an own __eq__ -/
theorem e_eqR {m : M α} {n : M β} {code : α → β → M Bool} (C : CxD X J k) (hj : j ≤ k) (hs : PySem.W.findIn X.K (.ref (J.ca Cn)) "__eq__" = some (some (.ref f))) (hf : PySem.W.isFn X.K (.ref f) = true)
    (F : FnOk X.prog X.w X.K X.mg X.base (L2N.CX X.prog X.w) j f fd ["self", "other"] (spE X.K J.ca (xC enc (xC enb xN)) eB fun a => code a.1 a.2.1)) (hb : Binds X.K fd ["self", "other"] []) (hd : ∀ z, enc z = .obj Cn (fs z))
    (ho : ∀ y, ∃ ds, enb y = .tup ds) (hne : ∀ x y e, code x y ≠ .er e) (hsub : PySem.W.subIn X.K (.ref (J.ca Cn)) (.type "tuple") = some false) (hb2 : DE X J S b enb n) (ha : DE X J S a enc m) (hm : behindInMarks .Eq a = false) :
    DE X J S (.Compare b [.Eq] [a] pos) eB (mb n fun y => mb m fun x => code x y) :=
  pe_imp (pe_cmpR (op_eqR hs hf F hb (C.room.mono hj) C.tk hsub) hb2 ha hm) fun σ H Q ⟨G, own, ok, fin⟩ => E_bind Fin.wish ok fin fun y u G1 H1 g1 ok1 d1 r1 => E_bind Fin.wish ok1 r1 fun x v G2 H2 g2 ok2 d2 r2 => by
    have d1' := d1.mono g2.g
    have d2o := d2
    rw [hd x] at d2o
    cases d2o with
    | obj hq hF =>
      have d1t := d1'
      obtain ⟨ds, e⟩ := ho y
      rw [e] at d1t
      obtain ⟨t, vs, e1, h1, _⟩ := Den.tuple (X := X) ok2.gh d1t
      subst e1
      refine ⟨_, _, _, _, _, rfl, rfl, ok2.gh _ _ hq, h1, sp_eq ok2.gh d2 d1' hne (fun c hc G' H' g => ?_) (fun hc => ?_)⟩
      · rw [hc] at r2
        exact r2 _ G' H' g (.bl c)
      · rw [hc] at r2
        exact r2.elim
end
/-! ### sorted(t), t a tuple of ints: wpAny_collect_seq and list_sort_ord put together -/
theorem cr_sortedTI : CallR X (.builtin "sorted") (fun vs H Q => ∃ (a : Addr) (ns : List Int), vs = [V.ref a] ∧ SqT X.K H a (ns.map V.int) ∧ ∀ (ns' : List Int) (p : Addr), ns'.Perm ns → ns'.Pairwise (· ≤ ·) → H p = none → Q (.ref p) (upd H p (.lst (ns'.map V.int)))) := by
  intro pins s σ H vs us Q I r h
  obtain ⟨a, ns, rfl, ha, q⟩ := h
  rw [Vals.ref1 r]
  obtain ⟨its, rv, ⟨o, e, c, n, d⟩, hz⟩ := I.tuple ha
  have hi := rv.ints
  have hz2 : its.length ≤ sizeLine := by rw [← rv.length]; exact hz
  refine Calls.call_function_entry kind_sorted plain_sorted entry_sorted (args_sorted1 _) ?_
  unfold Builtin.«sorted»
  refine wpAny_bind (m := checkCount "sorted" 1 1 _) (wpAny_pure (wpAny_bind (wpAny_collect_seq a (.inr rfl) e c d (fun h1 k => ?_) (by simpa using hz2))))
  refine wpAny_bind (wpAny_newList ?_ hz2)
  have hnew : (h1.push (seqObj "list" its.toArray 0)).get? h1.objs.size = some (seqObj "list" its.toArray 0) := Heap.get?_push_size _ rfl
  refine wpAny_bind (wpAny_holding (wpAny_call_entry slot_list_sort ⟨_, hnew, rfl⟩ entry_list_sort (SrtO.list_sort_ord SrtO.swo_int hnew hz2 (fun h2 => SrtO.ints_sortable hi h2) fun out hs hb => ⟨_, rfl, wpAny_pure ⟨_, rfl, ?_⟩⟩) (args_list_sort _)))
  obtain ⟨k1, k2, k3⟩ := SrtO.ints_out hi hs hb
  obtain ⟨ep, he'⟩ := sortedHeap_at (vs := its) (out := out.toArray) hnew
  have hlen : ((out.map SrtO.iv).map V.int).length ≤ sizeLine := by
    rw [List.length_map, k2.length_eq]
    rw [List.length_map] at hz
    exact hz
  have hn : H h1.objs.size = none := (I.hok.kept k).fresh (Nat.le_refl _)
  have hp : s.heap.get? h1.objs.size = none := by
    cases z : s.heap.get? h1.objs.size with
    | none => rfl
    | some u => exact absurd (Heap.lt_size (k _ _ z)) (Nat.lt_irrefl _)
  refine ⟨.ref _, upd H h1.objs.size (.lst ((out.map SrtO.iv).map V.int)), I.laidN (t' := s.toks) (fun b u hu => ?_) hp hn ⟨hlen, out, ep, vals_of_ints k1, he'⟩, rfl, q _ _ k2 k3 hn⟩
  have hb1 := Heap.lt_size (k b u hu)
  refine (sortedHeap_old (Nat.ne_of_lt hb1) ?_).trans (Heap.get?_push_of_some _ (k b u hu))
  rw [Heap.size_push]
  exact Nat.lt_succ_of_lt hb1
section
variable {S : List Sl} {a : Expr} {pos p : Pos}
theorem o_sortedT {m : M (List Int)} (hm : X.mg "sorted" = none) (h : PA X [a] (tCons (tE X J S (eT eI) m) tNil)) (hg : Gl X "sorted" := by rfl)
    (he : starEach (a :: []) X.env = (false, eval a X.env) :: starEach [] X.env := by rfl) (hpl : (backTo pos (starEach [] X.env)).any (·.1) = false := by rfl) : DO X J S (.Call (.Name "sorted" p) [a] [] pos) eI (mb m fun xs => .ok (sortI xs)) :=
  pe_imp (pe_callB cr_sortedTI hg hm (by decide +kernel) h (by decide) (by decide) he hpl) fun σ H Q ⟨G, own, ok, fin⟩ => E_bind FinO.wish ok fin fun xs v G1 H1 g ok1 d r => by
    obtain ⟨q, vs, rfl, h1, h2⟩ := Den.tuple (X := X) ok1.gh d
    rw [DenL.ints h2] at h1
    refine ⟨q, xs, rfl, h1, fun ns' l hp hw hl => ?_⟩
    rw [sortI_eq hp hw]
    exact r l _ G1 _ (Grow.allocO ok1.gh hl) hl upd_same (Same.free ok1.gh hl) (DL.DenL.of_ints _)
end
/-! ### isinstance(x, C), x a tuple or a list, C an own class; what stands behind a false -/
section
variable {α : Type} {enc : α → D}
theorem ty_tupC {C : Addr} {r : Bool} (h : PySem.W.kitOne X.K (.type "tuple") (.ref C) = some r) : ∀ (z : List α) v G H own, Same G H → DenB X J G H own v (eT enc z) → ∃ t', TyX X.K H v t' ∧ PySem.W.kitOne X.K t' (.ref C) = some ((fun _ => r) z) :=
  fun z v G H own sg d => by
    obtain ⟨q, vs, rfl, h1, h2⟩ := DenB.tup sg d
    exact ⟨_, sqT_ty h1, h⟩
theorem ty_lstC {C : Addr} {r : Bool} (h : PySem.W.kitOne X.K (.type "list") (.ref C) = some r) : ∀ (z : List α) v G H own, Same G H → DenB X J G H own v (eL enc z) → ∃ t', TyX X.K H v t' ∧ PySem.W.kitOne X.K t' (.ref C) = some ((fun _ => r) z) :=
  fun z v G H own sg d => by
    obtain ⟨q, vs, rfl, h1, h2⟩ := DenB.list sg d
    exact ⟨_, .base (.lst h1), h⟩
theorem kit_bto {K : PySem.W.Frag} {T : String} {E : Addr} {b : Bool} (h1 : PySem.W.isClsIn K E = true) (h2 : PySem.W.typeIn K (.ref E) = some (.type "type")) (h3 : PySem.W.subIn K (.type T) (.ref E) = some b) : PySem.W.kitOne K (.type T) (.ref E) = some b := by
  unfold PySem.W.kitOne
  rw [if_neg (fun z => by cases beq_iff_eq.mp z)]
  have e : ((PySem.W.clsIn K E).isSome && PySem.W.typeIn K (.ref E) == some (.type "type")) = true := by
    unfold PySem.W.isClsIn at h1
    rw [h1, h2]
    rfl
  show (if _ = true then _ else _) = _
  rw [if_pos e]
  exact h3
theorem de_no {S : List Sl} {e : Expr} : DE X J S e enc .no := ⟨fun _ _ _ _ _ _ ⟨_, _, _, fin⟩ => fin.elim⟩
theorem e_andF {S : List Sl} {a b : Expr} {es : List Expr} {pos : Pos} {m : M Bool} (h : DE X J S a eB m) (hm : m = .ok false) : DE X J S (.BoolOp .And (a :: b :: es) pos) eB (.ok false) := by
  subst hm
  exact e_and (n := .no) h de_no
end
/-! ### a new instance inside a try body: run_makeN with the wish at the slots as they are (an adaptation of the library's run_makeN: Passes becomes PassesAt) -/
section
open L2
theorem run_makeA {X : Cx} {CX : CXT} {k n : Nat} {f C : Addr} {fd : FuncData} {ps ks : List Str} {sp : Sp} {E : XK} {g : List Value → List Value → List Value} {gV : List V → List V → List V} {pins : List (Addr × Obj)} {σ : L2.St} {H : Hp} {s : Shared} {Q : VK} {us ws : List Value} {vs zs : List V} (M : Mk X.K C f) (F : FnOk X.prog X.w X.K X.mg X.base CX k f fd ps sp) (hr : Room (k + 1) X.A) (hb : KBn X.K fd ps (n + 1) ks g gV)
    (hx : PassesAt CX X σ E) (I : Inv X pins σ H s) (r : Vals vs us) (rz : Vals zs ws) (l1 : vs.length = n) (l2 : zs.length = ks.length)
    (h : ∀ x dx, H x = none → H dx = none → dx ≠ x → sp (gV (.ref x :: vs) zs) (upd (upd H dx (.own x)) x (.ins C dx [])) (fun v H2 => v = .non ∧ Q (.ref x) H2) E) :
    wpAny (model X.prog X.w) X.A (call (.ref C) us (ks.zip ws)) (EP X pins σ Q) X.xe s := by
  have hq := h (s.heap.objs.size + 1) s.heap.objs.size (I.hok.fresh (Nat.le_succ _)) (I.hok.fresh (Nat.le_refl _)) (Nat.ne_of_lt (Nat.lt_succ_self _))
  have I2 := Inv.made (C := C) I
  have r2 := hb.rel (Paired.cons (show RelV (V.ref (s.heap.objs.size + 1)) (Value.ref (s.heap.objs.size + 1)) from rfl) r) rz
  have e1 : (Value.ref (s.heap.objs.size + 1) :: us).length = n + 1 := by rw [List.length_cons, ← r.length, l1]
  refine wpAny_call (make_map (f := f) I.kIn M.makes M.init (beq_iff_eq.mp M.fn) (codeAny_mono (F.run _ X.stack _ _ ⟨Value.ref (s.heap.objs.size + 1) :: us, ks.zip ws⟩ (g (Value.ref (s.heap.objs.size + 1) :: us) ws) _ _ E (hr.make C us (ks.zip ws))
    (I2.env0.make C us (ks.zip ws)) (hb.to _ (Value.ref (s.heap.objs.size + 1) :: us) ws I2.kIn e1 (rz.length.symm.trans l2)) r2 hq) fun res t z => ?_))
  cases res with
  | error e => exact hx pins _ _ e t I2 z
  | ok fl =>
    cases fl with
    | ret u =>
      obtain ⟨v, H', I3, rv, ev, q3⟩ := I2.after z
      subst ev
      exact ⟨rv, V.ref (s.heap.objs.size + 1), H', I3, rfl, q3⟩
    | _ => exact z.elim
end
section
variable {α β γ δ ρ κ : Type} {S : List Sl} {enc : α → D} {a b c e : Expr} {es : List Expr} {pos p kpos : Pos} {k j : Nat} {kws : List Keyword}
theorem e_makeA {f : Addr} {fd : FuncData} {ps ks : List Str} {x Cn : Str} {n : Nat} {gV : List V → List V → List V} {encA : κ → List Sl} {code : κ → M ρ} {flds : ρ → List (Str × D)} {encs : α → List Sl} {enk : β → List Sl} {ma : M α} {mk : M β} {mkA : α → β → κ}
    (C : CxD X J k) (hj : j + 1 ≤ k) (Mm : Mk X.K (J.ca Cn) f) (F : FnOk X.prog X.w X.K X.mg X.base (L2N.CX X.prog X.w) j f fd ps (spN X.K J.ca Cn encA fun a => mb (code a) fun r => .ok (flds r))) (hm : X.mg x = some (.ref (J.ca Cn))) (hb : ∃ g, KBn X.K fd ps (n + 1) ks g gV)
    (ha : DX X J S (e :: es) encs ma) (hk : DK X J S kws enk mk) (hn : ∀ z, (encs z).length = n) (hn2 : ∀ z, (enk z).length = ks.length)
    (hA : ∀ (G H : Hp) (v : V) (vs zs : List V) (z : α) (y : β), ArgL X.K J.ca G H vs (encs z) → ArgL X.K J.ca G H zs (enk y) → ∃ ws, gV (v :: vs) zs = v :: ws ∧ ArgL X.K J.ca G H ws (encA (mkA z y)))
    (hg : Gl X x := by rfl) (hall : (backToKw pos (keywordEach kws X.env)).all (·.1.isSome) = true := by rfl) (hks : (backToKw pos (keywordEach kws X.env)).filterMap (·.1) = ks := by rfl)
    (hdb : (x == ("__debug__" : Str)) = false := by decide) (he : starEach (e :: es) X.env = (false, eval e X.env) :: starEach es X.env := by rfl)
    (hpl : ((backTo pos (starEach (e :: es) X.env)).any (·.1) || (backToKw pos (keywordEach kws X.env)).any (·.1.isNone)) = false := by rfl) :
    DE X J S (.Call (.Name x p) (e :: es) kws pos) (fun r => .obj Cn (flds r)) (mb ma fun z => mb mk fun y => code (mkA z y)) := by
  obtain ⟨g, hb⟩ := hb
  refine ⟨fun pins s σ H Q I ⟨G, own, ok, fin⟩ => ?_⟩
  refine wpAny_Call_Name_kw (ld_glob I hg hm ?_ hdb)
  have ta := X_bind (X := X) (J := J) (f := fun z => mb mk fun y => code (mkA z y)) (Fin.wish (enc := fun r => D.obj Cn (flds r)) (Q := Q)) ok fin
    (P := fun vs H1 => ∃ z G1, OkX X J G1 H1 own σ S ∧ ArgL X.K J.ca G1 H1 vs (encs z) ∧ Fin X J (fun r => D.obj Cn (flds r)) (mb mk fun y => code (mkA z y)) σ G1 H1 Q)
    fun z vs G1 H1 g1 ok1 d r => ⟨z, G1, ok1, d, r⟩
  refine PySem.W.callWith_KW (h₀ := X.base) I.ok.mod.kin Mm.kp hall (thn (ha.run pos pins s σ H _ I ta) fun us s1 ⟨vs, H1, I1, r1, z, G1, ok1, d1, fin1⟩ => ?_) hpl he
  have tk := X_bind (X := X) (J := J) (f := fun y => code (mkA z y)) (Fin.wish (enc := fun r => D.obj Cn (flds r)) (Q := Q)) ok1 fin1
    (P := fun zs H2 => ∃ y G2, OkX X J G2 H2 own σ S ∧ Grow G1 H1 G2 H2 ∧ ArgL X.K J.ca G2 H2 zs (enk y) ∧ Fin X J (fun r => D.obj Cn (flds r)) (code (mkA z y)) σ G2 H2 Q)
    fun y zs G2 H2 g2 ok2 d r => ⟨y, G2, ok2, g2, d, r⟩
  refine thn (hk.run pos pins s1 σ H1 _ I1 tk) fun ws s2 ⟨zs, H2, I2, rz, y, G2, ok2, g2, d2, fin2⟩ => ⟨I2.kIn, ?_⟩
  rw [hks]
  have dv := d1.mono g2.g g2.h
  refine run_makeA (E := fun cls d H => J.W cls d σ H) Mm F (C.room.mono hj) hb (L2N.passAt C.tk σ) I2 r1 rz (by rw [dv.length, hn]) (by rw [d2.length, hn2]) fun a dx h1 h2 hne => ?_
  obtain ⟨ws', e1, e2⟩ := hA G2 H2 (.ref a) vs zs z y dv d2
  have sg2 : Same G2 (upd (upd H2 dx (.own a)) a (.ins (J.ca Cn) dx [])) := fun b o q => by
    have q' := ok2.gh b o q
    rw [upd_ne (ne_of_none q' h1), upd_ne (ne_of_none q' h2)]; exact q'
  have hG : G2 a = none := Same.free ok2.gh h1
  refine ⟨mkA z y, a, dx, ws', G2, e1, upd_same, hG, sg2, e2.mono (Same.refl _) (fun b o q => by
    have n1 : b ≠ a := fun z => by rw [z, h1] at q; cases q
    rw [hid_ne n1, upd_ne n1, upd_ne fun z => by rw [z, h2] at q; cases q]; exact q), ?_⟩
  have old : ∀ b, H2 b ≠ none → b ≠ a ∧ (upd (upd H2 dx (.own a)) a (.ins (J.ca Cn) dx [])) b = H2 b := fun b hbn => by
    have n1 : b ≠ a := fun z => hbn (z ▸ h1)
    have n2 : b ≠ dx := fun z => hbn (z ▸ h2)
    exact ⟨n1, by rw [upd_ne n1, upd_ne n2]⟩
  cases hc : code (mkA z y) with
  | no => rw [hc] at fin2; exact fin2.elim
  | er q =>
    rw [hc] at fin2
    simp only [hc, mb_er]
    intro cls d G' H' s1 s2 o1 o2 ra
    refine fin2 cls d G' H' ⟨s1, fun b o q => ?_, s2, fun b hbn => ?_⟩ ra
    · obtain ⟨n1, n2⟩ := old b (by rw [q]; exact fun z => by cases z)
      rw [o1 b n1 (by rw [n2, q]; exact fun z => by cases z), n2]; exact q
    · obtain ⟨n1, n2⟩ := old b hbn
      exact o2 b n1 (by rw [n2]; exact hbn)
  | ok r =>
    rw [hc] at fin2
    simp only [hc, mb_ok]
    intro G' H' gs dy s1 s2 o1 o2 ha' hf
    have hGa : G' a = none := by rw [o2 a (by rw [upd_same]; exact fun z => by cases z)]; exact hG
    refine ⟨trivial, fin2 _ (upd G' a (.ins (J.ca Cn) dy gs)) H' ⟨s1.trans (same_upd hGa), fun b o q => ?_, fun b o q => ?_, fun b hbn => ?_⟩ (.obj upd_same (hf.mono (same_upd hGa)))⟩
    · obtain ⟨n1, n2⟩ := old b (by rw [q]; exact fun z => by cases z)
      rw [o1 b n1 (by rw [n2, q]; exact fun z => by cases z), n2]; exact q
    · by_cases hb' : b = a
      · subst hb'; rw [upd_same] at q; cases q; exact ha'
      · rw [upd_ne hb'] at q; exact s2 b o q
    · obtain ⟨n1, n2⟩ := old b hbn
      rw [upd_ne n1]; exact o2 b (by rw [n2]; exact hbn)
end
end DL

namespace DL
open PySem PySem.Spec PyProof.Rows L2
variable {X : Cx} {J : Jx}
/-! ### x + y, x * i by own operators: binop_K, ksp_binT by name -/
section
variable {C f : Addr} {fd : FuncData} {n : Nat} {ps : List Str} {sp : Sp}
/-- what x * i asks of the class at C -/
structure MulI (K : PySem.W.Frag) (C : Addr) : Prop where
  rc : ∃ rc, PySem.W.findIn K (.ref C) (dunderR "mul") = some rc ∧ (rc = none ∨ ∃ g : Addr, rc = some (.ref g))
  fo : ∃ fo, PySem.W.findIn K (.type "int") (PySem.dunder "mul") = some fo
  ro : ∃ ro, PySem.W.findIn K (.type "int") (dunderR "mul") = some ro
  sub : PySem.W.subIn K (.type "int") (.ref C) = some false
def rAddO (C : Addr) (sp : Sp) (E : XK) : R2 := fun x y H Q => ∃ a dx gs b dy hs, x = .ref a ∧ H a = some (.ins C dx gs) ∧ y = .ref b ∧ H b = some (.ins C dy hs) ∧ sp [x, y] H (fun v H' => (∃ q, v = .ref q) ∧ Q v H') E
def rMulO (C : Addr) (sp : Sp) (E : XK) : R2 := fun x y H Q => ∃ a dx gs i, x = .ref a ∧ H a = some (.ins C dx gs) ∧ y = .int i ∧ sp [x, y] H (fun v H' => (∃ q, v = .ref q) ∧ Q v H') E
theorem own_back {E : XK} {pins : List (Addr × Obj)} {σ : L2.St} {H : Hp} {s : Shared} {Q : VK} {us : List Value} {vs : List V} (F : FnOk X.prog X.w X.K X.mg X.base (L2N.CX X.prog X.w) n f fd ps sp) (hb : Binds X.K fd ps []) (hr : Room n X.A)
    (hx : ∀ τ, PassesAt (L2N.CX X.prog X.w) X τ E) (I : Inv X pins σ H s) (r2 : Vals vs us) (q : sp vs H (fun v H' => (∃ q, v = .ref q) ∧ Q v H') E) :
    wpAny (model X.prog X.w) X.A (call (.ref f) us) (PySem.W.CmpBack (EP X pins σ Q)) X.xe s := by
  have hl := F.len _ _ _ _ q
  refine wpAny_call (codeAny_mono (F.run X.A X.stack s H ⟨us, []⟩ us vs _ _ hr I.env0 (by
    have := hb s us I.kIn (by rw [List.append_nil, ← r2.length]; exact hl)
    simpa using this) r2 q) fun r s' hq => ?_)
  cases r with
  | error e => exact hx σ pins H s e s' I hq
  | ok fl =>
    cases fl with
    | ret w =>
      obtain ⟨z, H', I', rz, ⟨p, ez⟩, qz⟩ := I.after hq
      subst ez
      cases (show w = Value.ref p from rz)
      exact ⟨.ref p, H', I', rfl, qz⟩
    | _ => exact False.elim hq
theorem op_addO {E : XK} (hc : PySem.W.selfFirst X.K C = true) (hs : PySem.W.findIn X.K (.ref C) (PySem.dunder "add") = some (some (.ref f))) (hf : PySem.W.isFn X.K (.ref f) = true) (F : FnOk X.prog X.w X.K X.mg X.base (L2N.CX X.prog X.w) n f fd ps sp) (hb : Binds X.K fd ps [])
    (hr : Room n X.A) (hx : ∀ τ, PassesAt (L2N.CX X.prog X.w) X τ E) : OpR X (binaryOp .Add) (rAddO C sp E) := by
  intro pins s σ H x y v u Q I rx ry h
  obtain ⟨a, dx, gs, b, dy, hs', rfl, ha, rfl, hb', q⟩ := h
  cases (show v = Value.ref a from rx)
  cases (show u = Value.ref b from ry)
  obtain ⟨mA, J0, _⟩ := ins_get I.hok ha
  obtain ⟨od, J0, _⟩ := J0.look
  obtain ⟨mB, J1, _⟩ := ins_get I.hok hb'
  obtain ⟨od1, J1, _⟩ := J1.look
  obtain ⟨m, hF⟩ := I.fr
  have r2 : Vals [V.ref a, V.ref b] [Value.ref a, Value.ref b] := .cons rfl (.cons rfl .nil)
  exact PySem.W.binop_K (op := .Add) hF I.ok.mod.kin J0 J1.type hc hs hf (own_back F hb hr hx I r2 q)
theorem op_mulO {E : XK} (hc : PySem.W.selfFirst X.K C = true) (hm : MulI X.K C) (hs : PySem.W.findIn X.K (.ref C) (PySem.dunder "mul") = some (some (.ref f))) (hf : PySem.W.isFn X.K (.ref f) = true) (F : FnOk X.prog X.w X.K X.mg X.base (L2N.CX X.prog X.w) n f fd ps sp) (hb : Binds X.K fd ps [])
    (hr : Room n X.A) (hx : ∀ τ, PassesAt (L2N.CX X.prog X.w) X τ E) : OpR X (binaryOp .Mult) (rMulO C sp E) := by
  intro pins s σ H x y v u Q I rx ry h
  obtain ⟨a, dx, gs, i, rfl, ha, rfl, q⟩ := h
  cases (show v = Value.ref a from rx)
  obtain ⟨t, rfl⟩ := ry
  obtain ⟨mA, J0, _⟩ := ins_get I.hok ha
  obtain ⟨od, J0, _⟩ := J0.look
  obtain ⟨m, hF⟩ := I.fr
  obtain ⟨⟨rc, r1, r2⟩, ⟨fo, e1⟩, ⟨ro, e2⟩, hsub⟩ := hm
  have rr : Vals [V.ref a, V.int i] [Value.ref a, Value.int i t] := .cons rfl (.cons ⟨t, rfl⟩ .nil)
  exact PySem.W.ksp_binT (op := .Mult) (T := "int") hF I.ok.mod.kin J0 rfl hc hs hf r1 r2 e1 e2 hsub (own_back F hb hr hx I rr q)
end
section
variable {α β γ : Type} {S : List Sl} {enc : α → D} {enb : β → D} {enr : γ → D} {a b : Expr} {pos : Pos} {k j : Nat} {f : Addr} {fd : FuncData} {Cn : Str} {fs : α → List (Str × D)} {fr : γ → List (Str × D)} {ps : List Str}
/-- the wish at an exception, at any slots -/
def WA (J : Jx) : XK := fun cls d H => ∀ σ, J.W cls d σ H
theorem pass_all (tk : L2N.Takes X J.W) (τ : L2.St) : PassesAt (L2N.CX X.prog X.w) X τ (WA J) := fun pins H s e s' I c => tk e s' (L2N.XE.of_call I (fun _ _ _ h => h τ) c)
theorem sp_bin {G H : Hp} {σ : L2.St} {v u : V} {x : α} {y : β} {code : α → β → M γ} {Q : V → Hp → Prop} (hW : ∀ cls d σ τ H, J.W cls d σ H → J.W cls d τ H) (sg : Same G H) (dx : Den X.K J.ca G v (enc x)) (dy : Den X.K J.ca G u (enb y)) (hr : ∀ z, enr z = .obj Cn (fr z))
    (h : Fin X J enr (code x y) σ G H Q) : spE X.K J.ca (xC enc (xC enb xN)) enr (fun a => code a.1 a.2.1) [v, u] H (fun v H' => (∃ q, v = .ref q) ∧ Q v H') (WA J) := by
  refine ⟨(x, (y, ())), G, sg, .cons dx (.cons dy .nil), ?_⟩
  show spR X.K J.ca G H (mb (code x y) _) _ _
  cases hc : code x y with
  | no => rw [hc] at h; exact h.elim
  | er e =>
    rw [hc] at h
    show ErK X.K J.ca e G H (WA J)
    exact fun cls d G' H' g ra τ => hW cls d σ τ H' (h cls d G' H' g ra)
  | ok c =>
    rw [hc] at h
    intro v' G' H' g dv
    have dv' := dv
    rw [hr c] at dv'
    cases dv' with
    | obj hq hF => exact ⟨⟨_, rfl⟩, h _ G' H' g dv⟩
/-- x + y, both of a class with an own __add__ -/
theorem e_addO {m : M α} {n : M β} {code : α → β → M γ} (C : CxD X J k) (hj : j ≤ k) (hW : ∀ cls d σ τ H, J.W cls d σ H → J.W cls d τ H) (hc : PySem.W.selfFirst X.K (J.ca Cn) = true) (hs : PySem.W.findIn X.K (.ref (J.ca Cn)) "__add__" = some (some (.ref f))) (hf : PySem.W.isFn X.K (.ref f) = true)
    (F : FnOk X.prog X.w X.K X.mg X.base (L2N.CX X.prog X.w) j f fd ps (spE X.K J.ca (xC enc (xC enb xN)) enr fun a => code a.1 a.2.1)) (hb : Binds X.K fd ps []) {fsb : β → List (Str × D)} (hd : ∀ z, enc z = .obj Cn (fs z)) (hd2 : ∀ z, enb z = .obj Cn (fsb z)) (hr : ∀ z, enr z = .obj Cn (fr z))
    (ha : DE X J S a enc m) (hb2 : DE X J S b enb n) : DE X J S (.BinOp a .Add b pos) enr (mb m fun x => mb n fun y => code x y) :=
  pe_imp (pe_op (op_addO hc (show PySem.W.findIn X.K (.ref (J.ca Cn)) (PySem.dunder "add") = _ from hs) hf F hb (C.room.mono hj) (pass_all C.tk)) ha hb2) fun σ H Q ⟨G, own, ok, fin⟩ => E_bind Fin.wish ok fin fun x v G1 H1 g1 ok1 d1 r1 => E_bind Fin.wish ok1 r1 fun y u G2 H2 g2 ok2 d2 r2 => by
    have d1' := d1.mono g2.g
    have d1o := d1'
    rw [hd x] at d1o
    have d2o := d2
    rw [hd2 y] at d2o
    cases d1o with
    | obj hq hF =>
      cases d2o with
      | obj hq2 hF2 => exact ⟨_, _, _, _, _, _, rfl, ok2.gh _ _ hq, rfl, ok2.gh _ _ hq2, sp_bin hW ok2.gh d1' d2 hr r2⟩
/-- x * i, x of a class with an own __mul__ -/
theorem e_mulO {m : M α} {n : M Int} {code : α → Int → M γ} (C : CxD X J k) (hj : j ≤ k) (hW : ∀ cls d σ τ H, J.W cls d σ H → J.W cls d τ H) (hc : PySem.W.selfFirst X.K (J.ca Cn) = true) (hm : MulI X.K (J.ca Cn)) (hs : PySem.W.findIn X.K (.ref (J.ca Cn)) "__mul__" = some (some (.ref f))) (hf : PySem.W.isFn X.K (.ref f) = true)
    (F : FnOk X.prog X.w X.K X.mg X.base (L2N.CX X.prog X.w) j f fd ps (spE X.K J.ca (xC enc (xC eI xN)) enr fun a => code a.1 a.2.1)) (hb : Binds X.K fd ps []) (hd : ∀ z, enc z = .obj Cn (fs z)) (hr : ∀ z, enr z = .obj Cn (fr z))
    (ha : DE X J S a enc m) (hb2 : DE X J S b eI n) : DE X J S (.BinOp a .Mult b pos) enr (mb m fun x => mb n fun y => code x y) :=
  pe_imp (pe_op (op_mulO hc hm (show PySem.W.findIn X.K (.ref (J.ca Cn)) (PySem.dunder "mul") = _ from hs) hf F hb (C.room.mono hj) (pass_all C.tk)) ha hb2) fun σ H Q ⟨G, own, ok, fin⟩ => E_bind Fin.wish ok fin fun x v G1 H1 g1 ok1 d1 r1 => E_bind Fin.wish ok1 r1 fun y u G2 H2 g2 ok2 d2 r2 => by
    have d1' := d1.mono g2.g
    have d1o := d1'
    rw [hd x] at d1o
    have d2' := d2
    cases d2
    cases d1o with
    | obj hq hF => exact ⟨_, _, _, _, rfl, ok2.gh _ _ hq, rfl, sp_bin hW ok2.gh d1' d2' hr r2⟩
end
end DL

namespace DL
open PySem PySem.Spec PyProof.Rows L2
variable {X : Cx} {J : Jx}
/-! ### a tuple repeated: once, or any number of times -/
theorem mul_same (l : Addr) (items : Array Value) (n : Nat) (dd : Option Addr) (sl : Array (Option Value)) (x : Int) (u : Tok) (h0 : (decide (x < -(2 ^ 63)) || decide (x ≥ 2 ^ 63)) = false) (h1 : (items.isEmpty || x == 1) = true) :
    Meets (Builtin.«tuple.__mul__» ⟨[.ref l, .int x u], []⟩) (fun _ R s => s.heap.get? l = some { cls := .type "tuple", dict := dd, data := .seq items n, slots := sl } ∧ R (.ok (.ret (Value.ref l))) s) :=
  .of_wp fun prog w A R s h => by
    obtain ⟨hp, g, d, tk, os⟩ := s
    obtain ⟨hl, h⟩ := h
    have ix := AutoSeq1.idx_int
    wp_walk using wpAny_loadPart' hl
    repeat (first
      | (refine wpAny_ite_false (decide_eq_false (by rw [h0]; exact Bool.false_ne_true)) ?_; wp_walk using wpAny_loadPart' hl)
      | (refine wpAny_ite_true (decide_eq_true h1) ?_; wp_walk using wpAny_loadPart' hl))
    exact ⟨_, rfl, h⟩
def rMulT (K : PySem.W.Frag) : R2 := fun x y H Q => ∃ l k xs, x = .ref l ∧ y = .int k ∧ SqT K H l xs ∧ ((xs = [] ∨ k = 1) ∧ k < 1000000 ∧ -1000000 < k ∧ Q (.ref l) H ∨
  xs ≠ [] ∧ 2 ≤ k ∧ k ≤ 1000 ∧ xs.length ≤ 1000 ∧ ∀ p, H p = none → Q (.ref p) (upd H p (.tup (List.replicate k.toNat xs).flatten)))
theorem op_mulT : OpR X (binaryOp .Mult) (rMulT X.K) := by
  intro pins s σ H x y v u Q I rx ry h
  obtain ⟨l, k, xs, rfl, rfl, ht, h⟩ := h
  rcases h with ⟨h1, b1, b2, q⟩ | ⟨h1, h2, h3, h4, q⟩
  · cases rx
    obtain ⟨t, rfl⟩ := ry
    obtain ⟨its, r, ⟨⟨cls, dd, data, sl⟩, ho, hc, n, hd⟩, hs⟩ := I.tuple ht
    simp only at hc hd
    subst hc hd
    have e1 : (its.toArray.isEmpty || k == 1) = true := by
      rcases h1 with h1 | h1
      · subst h1
        cases r
        rfl
      · rw [h1]
        cases its.toArray.isEmpty <;> rfl
    have e0 : (decide (k < -(2 ^ 63)) || decide (k ≥ 2 ^ 63)) = false := by
      rw [decide_eq_false (by omega), decide_eq_false (by omega)]
      rfl
    exact wpAny_binaryOp_repeat_ref (T := "tuple") (U := "int") (by decide) ⟨_, ho, rfl⟩ (fun s' => typeIs_int s' k t) noFill_tuple_mul F.fills_int_mul F.slot_int_rmul repeat_tuple F.slot_int_index.lookup
      (call_meets F.slot_int_rmul (typeIs_int s k t) F.entry_int_rmul (F.args_int_rmul_2 _ _) (int_rmul_tuple k t l its.toArray n dd sl)
        ⟨ho, rfl, ⟨_, ho, rfl⟩, call_meets F.slot_tuple_mul ⟨_, ho, rfl⟩ F.entry_tuple_mul (F.args_tuple_mul_2 _ _) (mul_same l its.toArray n dd sl k t e0 e1) ⟨ho, .ref l, H, I, rfl, q⟩⟩)
  · exact op_repT pins s σ H _ _ v u Q I rx ry ⟨l, k, xs, rfl, rfl, ht, h1, h2, h3, h4, q⟩
section
variable {α : Type} {S : List Sl} {enc : α → D} {a b : Expr} {pos : Pos}
def repTM (xs : List α) (k : Int) : M (List α) := if k = 1 ∨ (xs.length = 0 ∧ k < 1000000 ∧ -1000000 < k) ∨ (2 ≤ k ∧ k ≤ 1000 ∧ xs.length ≤ 1000) then .ok (List.replicate k.toNat xs).flatten else .no
theorem rep_nil (n : Nat) : (List.replicate n ([] : List α)).flatten = [] := by
  induction n with
  | zero => rfl
  | succ n ih => rw [List.replicate_succ, List.flatten_cons, ih]; rfl
theorem e_repT {m : M (List α)} {n : M Int} (ha : DE X J S a (eT enc) m) (hb : DE X J S b eI n) : DE X J S (.BinOp a .Mult b pos) (eT enc) (mb m fun xs => mb n fun k => repTM xs k) :=
  pe_imp (pe_op op_mulT ha hb) fun σ H Q ⟨G, own, ok, fin⟩ => E_bind Fin.wish ok fin fun xs v G1 H1 g ok1 d r => E_bind Fin.wish ok1 r fun i u G2 H2 g2 ok2 d2 r2 => by
    have d' := d.mono g2.g
    have d0 := d'
    cases d2
    obtain ⟨q, vs, rfl, h1, h2⟩ := Den.tuple (X := X) ok2.gh d'
    have el := h2.length
    rw [List.length_map] at el
    unfold repTM at r2
    split at r2
    · rename_i hz
      by_cases one : vs = [] ∨ i = 1
      · refine ⟨q, i, vs, rfl, rfl, h1, .inl ⟨one, by omega, by omega, ?_⟩⟩
        have e : (List.replicate i.toNat xs).flatten = xs := by
          rcases one with h | h
          · subst h
            rw [List.length_nil] at el
            rw [List.length_eq_zero_iff.mp el.symm]
            exact rep_nil _
          · subst h
            show (List.replicate 1 xs).flatten = xs
            simp
        rw [e] at r2
        exact r2 _ G2 H2 (Grow.refl ok2.gh) d0
      · have n0 : vs ≠ [] := fun e => one (.inl e)
        have n1 : i ≠ 1 := fun e => one (.inr e)
        have n2 : xs.length ≠ 0 := fun e => n0 (List.length_eq_zero_iff.mp (by omega))
        refine ⟨q, i, vs, rfl, rfl, h1, .inr ⟨n0, by omega, by omega, by omega, fun l hl => ?_⟩⟩
        refine r2 _ _ _ (Grow.alloc ok2.gh hl) (.tup (.of upd_same) ?_)
        rw [← map_rep]
        exact (h2.rep _).mono (same_upd (Same.free ok2.gh hl))
    · exact r2.elim
end
end DL

namespace DL
open PySem PySem.Spec PyProof.Rows L2
variable {X : Cx} {J : Jx}
/-! ### tuples whose object is known to hold no dict: their methods may be called -/
section
variable {α : Type}
def eF (enc : α → D) (xs : List α) : D := .ftp (xs.map enc)
theorem Den.unF {K : PySem.W.Frag} {ca : Str → Addr} {H : Hp} {v : V} {ds : List D} (d : Den K ca H v (.ftp ds)) : ∃ a o vs, v = .ref a ∧ H a = some (.frz o (.tup vs)) ∧ o.cls = .type "tuple" ∧ o.dict = none ∧ DenL K ca H vs ds := by
  cases d with
  | ftp h c dn t => exact ⟨_, _, _, rfl, h, c, dn, t⟩
theorem Den.toT {K : PySem.W.Frag} {ca : Str → Addr} {H : Hp} {v : V} {ds : List D} (d : Den K ca H v (.ftp ds)) : Den K ca H v (.tup ds) := by
  obtain ⟨a, o, vs, rfl, h, _, _, t⟩ := d.unF
  exact .tup (.inl (.inr ⟨o, h⟩)) t
end
theorem call_tupleF : CallR X (.type "tuple") (fun xs H Q => ∃ p ys, xs = [.ref p] ∧ SqL X.K H p ys ∧ ∀ (l : Addr) (o : Obj), H l = none → o.cls = .type "tuple" → o.dict = none → Q (.ref l) (upd H l (.frz o (.tup ys)))) := by
  intro pins s σ H xs us Q I r h
  obtain ⟨p, ys, rfl, hq, q⟩ := h
  cases Vals.ref1 r
  obtain ⟨its, rv, pl, hz⟩ := I.list hq
  have il := rv.length
  refine call_tuple_list pl.isList (fun h' kp => ?_) (by simp only [List.size_toArray]; omega)
  have I1 : Inv X pins σ H { s with heap := h' } := I.kept (t' := s.toks) kp
  have I2 : Inv X pins σ (upd H h'.objs.size (.frz { cls := .type "tuple", data := .seq its.toArray } (.tup ys))) { s with heap := h'.push { cls := .type "tuple", data := .seq its.toArray } } :=
    I1.laid (t' := s.toks) (fun b o e => Heap.get?_push_of_some _ e) (Nat.le_refl _) (show ObjOk X.prog X.w _ _ _ (.frz _ (.tup ys)) from ⟨by simp [Heap.get?, Heap.push], hz, its, rv, IsTup.new _ _⟩)
  exact ⟨.ref h'.objs.size, _, I2, rfl, q _ _ (I1.hok.fresh (Nat.le_refl _)) rfl rfl⟩
section
variable {α : Type} {S : List Sl} {enc : α → D} {a b : Expr} {pos p p2 : Pos}
theorem e_FT {m : M (List α)} (h : DE X J S a (eF enc) m) : DE X J S a (eT enc) m :=
  pe_imp h fun σ H Q ⟨G, own, ok, fin⟩ => by
    refine ⟨G, own, ok, ?_⟩
    cases m with
    | no => exact fin
    | er x => exact fin
    | ok z => exact fun v G' H' g d => fin v G' H' g d.toT
theorem e_tupleF {m : M (List α)} (hm : X.mg "tuple" = none) (h : PA X [a] (tCons (tEb X J S (eL enc) m) tNil)) (hg : Gl X "tuple" := by rfl)
    (he : starEach (a :: []) X.env = (false, eval a X.env) :: starEach [] X.env := by rfl) (hpl : (backTo pos (starEach [] X.env)).any (·.1) = false := by rfl) : DE X J S (.Call (.Name "tuple" p) [a] [] pos) (eF enc) m :=
  pe_imp (pe_callTy call_tupleF hg hm boot_tuple h (by decide) (by decide) he hpl) fun σ H Q ⟨G, own, ok, fin⟩ => B_bind (f := .ok) (Fin.wish (enc := eF enc) (Q := Q)) ok (by cases m <;> exact fin) fun xs v G1 H1 g ok1 d r => by
    obtain ⟨q, vs, rfl, h1, h2⟩ := DenB.list ok1.gh d
    exact ⟨q, vs, rfl, SqL.of h1, fun l o hl hc hd => r _ _ _ (Grow.alloc ok1.gh hl) (.ftp upd_same hc hd (h2.mono (same_upd (Same.free ok1.gh hl))))⟩
end
/-! ### t.index(k), t a tuple of ints: SeqAt.tuple_index_ints -/
theorem ixOf_idx {k : Int} : ∀ {xs : List Int} {j : Nat}, ixOf k xs = some j → k ∈ xs ∧ xs.idxOf k = j
  | x :: xs, j, h => by
    unfold ixOf at h
    by_cases q : x = k
    · rw [if_pos q] at h
      cases h
      subst q
      exact ⟨List.mem_cons_self, List.idxOf_cons_self⟩
    · rw [if_neg q] at h
      obtain ⟨m, hm, rfl⟩ := Option.map_eq_some_iff.mp h
      obtain ⟨h1, h2⟩ := ixOf_idx hm
      refine ⟨List.mem_cons_of_mem _ h1, ?_⟩
      rw [List.idxOf_cons, show (x == k) = false by simpa using q, h2]
      rfl
/-- the tuple, then the item, then the place -/
def tIxF (to : TE) (t : TA) : TE := fun σ H Q => to σ H fun x H1 => (∃ p o ys, x = .ref p ∧ H1 p = some (.frz o (.tup ys)) ∧ o.cls = .type "tuple" ∧ o.dict = none) ∧
  t σ H1 fun vs H2 => ∃ (l : Addr) (ns : List Int) (k : Int) (j : Nat) (o : Obj), x = .ref l ∧ vs = [.int k] ∧ H2 l = some (.frz o (.tup (ns.map V.int))) ∧ ixOf k ns = some j ∧ Q (.int j) H2
section
variable {S : List Sl} {a b : Expr} {pos p2 : Pos}
theorem pe_ixF {to : TE} {t : TA} (ho : PE X a to) (ha : PA X [b] t) (hbase : attributeBase a "index" X.env (eval a X.env) = eval a X.env := by rfl)
    (hfew : ((backTo pos (starEach (b :: []) X.env)).all (fun x => !x.1) && (backToKw pos (keywordEach [] X.env)).all (fun x => x.1.isSome) && decide ((b :: []).length + ([] : List Keyword).length + (if ([] : List Keyword).isEmpty then 0 else 1) < 30)) = true := by rfl)
    (hline : (p2.endLine == pos.line) = true := by rfl) (hs : starEach (b :: []) X.env = (false, eval b X.env) :: starEach [] X.env := by rfl) (hpl : (backTo pos (starEach [] X.env)).any (·.1) = false := by rfl) :
    PE X (.Call (.Attribute a "index" p2) [b] [] pos) (tIxF to t) := by
  refine ⟨fun pins s σ H Q I h => ?_⟩
  refine wpAny_Call_method_late hbase hfew hline rfl (thn (ho.run pins s σ H _ I h) fun v s1 ⟨x, H1, I1, r1, ⟨p, o, ys, ex, eH, ec, ed⟩, q1⟩ => ?_)
  subst ex
  cases r1
  have eo : s1.heap.get? p = some o := (I1.hok p _ eH).1
  refine ⟨"tuple", "tuple.index", PySem.F.plainAttrs_tuple, PySem.F.slot_tuple_index, PySem.F.type_tuple_index, ⟨o, eo, ec⟩, fun a e => by cases e; exact ⟨o, eo, ed⟩, ?_⟩
  have hA := ha.run pos pins s1 σ H1 _ I1 q1
  rw [hs] at hA ⊢
  refine Calls.callWith_builtin (by show (false || (backTo pos (starEach [] X.env)).any (·.1)) = false; rw [hpl]; rfl) (Calls.evalArgs_plain ?_)
  refine thn hA fun us s2 ⟨vs, H2, I2, r2, l, ns, k, j, o2, el, ev, eH2, hj, q2⟩ => ?_
  cases el
  subst ev
  obtain ⟨u, rfl, ru⟩ := r2.one
  obtain ⟨t, rfl⟩ := ru
  obtain ⟨its, r, ht, _⟩ := I2.tuple (.inl (.inr ⟨o2, eH2⟩))
  obtain ⟨g1, g2⟩ := ixOf_idx hj
  refine SeqAt.tuple_index_ints ht (Vals.ints r) g1 ?_
  rw [g2]
  exact ⟨.int j, H2, I2.kept fun _ _ e => e, ⟨_, rfl⟩, q2⟩
theorem e_indexF {m : M (List Int)} {n : M Int} (hb : PE X (.Call (.Attribute a "index" p2) [b] [] pos) (tIxF (tE X J S (eF eI) m) (tCons (tE X J S eI n) tNil))) :
    DE X J S (.Call (.Attribute a "index" p2) [b] [] pos) eI (mb m fun xs => mb n fun k => ixOfM xs k) :=
  pe_imp hb fun σ H Q ⟨G, own, ok, fin⟩ => E_bind Fin.wish ok fin fun xs v G1 H1 g ok1 d r => by
    obtain ⟨q0, o0, vs0, rfl, h10, c0, d0, h20⟩ := d.unF
    refine ⟨⟨_, _, _, rfl, ok1.gh _ _ h10, c0, d0⟩, ?_⟩
    refine E_bind Fin.wish ok1 r fun k u G2 H2 g2 ok2 d2 r2 => ?_
    cases d2
    obtain ⟨q, o, vs, e, h1, _, _, h2⟩ := (d.mono g2.g).unF
    rw [DenL.ints h2] at h1
    unfold ixOfM at r2
    cases hx : ixOf k xs with
    | none => rw [hx] at r2; exact r2.elim
    | some j =>
      rw [hx] at r2
      exact ⟨q, xs, k, j, o, e, rfl, ok2.gh _ _ h1, hx, r2 _ G2 H2 (Grow.refl ok2.gh) (.int _)⟩
end
/-! ### t <= u, tuples of ints: op_leT -/
def leT (ns ms : List Int) : Bool := Ob.lexAt (fun j => decide (ns.getD j 0 = ms.getD j 0)) (fun j => decide (ns.getD j 0 ≤ ms.getD j 0)) (decide (ns.length ≤ ms.length)) 0 (min ns.length ms.length)
theorem c_leT (hu : X.A.units < cLine) : CmpD X J .LtE (eT eI) (eT eI) leT := ⟨_, op_leT hu, fun x y v u G H own Q sg d1 d2 q => by
  obtain ⟨a, vs, rfl, h1, h2⟩ := DenB.tup sg d1
  obtain ⟨b, ws, rfl, h3, h4⟩ := DenB.tup sg d2
  rw [DenL.ints h2] at h1
  rw [DenL.ints h4] at h3
  exact ⟨a, b, x, y, rfl, rfl, h1, h3, q⟩⟩
theorem leT_two {a b c d : Int} : leT [a, b] [c, d] = if a = c then decide (b ≤ d) else decide (a ≤ c) := by
  show (if decide (a = c) = true then (if decide (b = d) = true then decide (2 ≤ 2) else decide (b ≤ d)) else decide (a ≤ c)) = _
  by_cases h : a = c
  · rw [if_pos (decide_eq_true h), if_pos h]
    by_cases h2 : b = d
    · rw [if_pos (decide_eq_true h2), h2]; simp
    · rw [if_neg (by simp [h2])]
  · rw [if_neg (by simp [h]), if_neg h]
end DL

namespace DL
open PySem PySem.Spec PyProof.Rows L2
variable {X : Cx} {J : Jx}
theorem em_cons {P : Str → Prop} {c : Str} {cs : List Str} (h : P c) (r : ∀ x ∈ cs, P x) : ∀ x ∈ c :: cs, P x := fun x hx => by
  rcases List.mem_cons.mp hx with e | e
  · rw [e]; exact h
  · exact r x e
section
variable {α β γ δ ρ : Type} {S S1 : List Sl} {N : β → List Sl} {L : γ → List Sl} {R : ρ → RV} {pos : Pos} {k : Nat} {body : List Stmt}
/-! ### try: .. except B: .., without a name: ps_try_many by name -/
def tryN {β γ ρ : Type} (cs : List Str) (m : M (Out β γ ρ)) (f : M (Out β γ ρ)) : M (Out β γ ρ) := match m with
  | .er x => if x.cls ∈ cs then noEr f else .no
  | .ok o => .ok o
  | .no => .no
theorem tryN_ok {β γ ρ : Type} (cs : List Str) (o : Out β γ ρ) (f : M (Out β γ ρ)) : tryN cs (.ok o) f = .ok o := rfl
theorem tryN_er {β γ ρ : Type} {cs : List Str} {cn : Str} (h : cn ∈ cs) (a : List (Str × D)) (f : M (Out β γ ρ)) : tryN cs (.er ⟨cn, a⟩) f = noEr f := if_pos h
theorem ss_tryN {cb : Str} {b₀ : Stmt} {suite : List Stmt} {np pos' : Pos} {cs : List Str} {mB f : M (Out β γ ρ)} (C : CxD X J k) (hs : X.stack = X.env :: X.outer) (hf : X.env.frame = some X.env.locals) (hgl : Gl X cb) (hgm : X.mg cb = some (.ref (J.ca cb)))
    (hem : ∀ c ∈ cs, PySem.W.exmOne X.K (.ref (J.ca c)) (.ref (J.ca cb)) = some true) (hd : (cb == ("__debug__" : Str)) = false)
    (hb : ∀ (W : WX) (pn : List (Addr × Obj)) (xe : Value → Shared → Prop), CxD (X.tr pn xe) ⟨J.ca, W, J.B, S1⟩ k → DSs (X.tr pn xe) ⟨J.ca, W, J.B, S1⟩ S body N L R mB)
    (hsu : ∀ (a : Addr) (oe : Obj) (pn : List (Addr × Obj)), CxS (X.suite a ((a, oe) :: pn)) (js J) k → DSs (X.suite a ((a, oe) :: pn)) (js J) S1 (b₀ :: suite) N L R f) :
    DS X J S (.Try body [.ExceptHandler (some (.Name cb np)) none (b₀ :: suite) pos'] [] [] pos) N L R (tryN cs mB f) := by
  have hA : ∀ (a : Addr) (oe : Obj) (cls : Value) (d : Option Addr) (pn : List (Addr × Obj)), L2N.Zn cls d oe → (∃ vs, oe.data = .fields vs) → CxS (X.suite a ((a, oe) :: pn)) (js J) k := fun a oe cls d pn hz ⟨vs, hv⟩ =>
    ⟨⟨(a, oe), ⟨rfl, vs, hv, hz.2.2 vs hv⟩, List.mem_cons_self⟩, L2H.roomH_mark C.room _, takesN, C.nd⟩
  refine ps_imp (L2N.ps_try_many (Wout := J.W) (l := [(.ref (J.ca cb), fun _ _ _ Dn σ H => tS X (js J) S1 N L R f Dn σ H)]) hs hf C.tk (tb := fun W => tS X ⟨J.ca, W, J.B, S1⟩ S N L R mB)
    (fun W pn xe tk po => hb W pn xe ⟨C.calm, tk, po, C.room, C.nd⟩) (.cons ⟨hgl, hd, .inl hgm⟩ (fun a oe cls d pn hz hv => ?_) .nil)) fun Dn σ H ⟨G, own, ok, fin⟩ => ?_
  · exact ⟨fun pins s σ H D I q => (hsu a oe pn (hA a oe cls d pn hz hv)).run pins s σ H D I q⟩
  · refine ⟨G, own, ok, ?_⟩
    cases hm : mB with
    | ok o =>
      rw [hm] at fin
      cases o with
      | nx b => exact fin
      | rt r => exact fin
      | bk c => exact fin
      | ct c => exact fin
    | no => rw [hm] at fin; exact fin
    | er x =>
      rw [hm] at fin
      intro cls d σ' G' H' own' sg ok' ra
      by_cases hx : x.cls ∈ cs
      · have fin2 : FinS X J N L R Dn G (noEr f) := by
          unfold tryN at fin
          simp only [if_pos hx] at fin
          exact fin
        refine ⟨true, by rw [ra.1]; exact hem _ hx, fun _ a hn => ⟨G', own', ok', ?_⟩, fun z => by cases z⟩
        have fin3 := fin2.mono sg
        cases hfa : f with
        | no => rw [hfa] at fin3; exact fin3.elim
        | er y => rw [hfa] at fin3; exact fin3.elim
        | ok o =>
          rw [hfa] at fin3
          cases o with
          | nx b => exact fin3
          | rt r => exact fin3
          | bk c => exact fin3
          | ct c => exact fin3
      · unfold tryN at fin
        simp only [if_neg hx] at fin
        exact fin.elim
end
end DL

namespace DL
open PySem L2
/-! ## plain laws of the codes -/
/-! ### numbers -/
theorem mulL {i j : Int} (h : i.natAbs < 2 ^ 64) : mulM i j = .ok (i * j) := if_pos (.inl h)
theorem mulR {i j : Int} (h : j.natAbs < 2 ^ 64) : mulM i j = .ok (i * j) := if_pos (.inr h)
theorem modK {i j : Int} (h : 0 < j) : modM i j = .ok (i % j) := if_pos h
theorem divK {i j : Int} (h : 0 < j) (h2 : j < 2 ^ 1000) : divM i j = .ok (i / j) := if_pos ⟨h, h2⟩
theorem powK {i j : Int} (h : 0 ≤ j) (h2 : j ≤ 1000) (h3 : i.natAbs < 2 ^ 64) : powM i j = .ok (i ^ j.toNat) := if_pos ⟨h, h2, h3⟩
theorem pow9 : powM 10 9 = .ok 1000000000 := by rw [powK (by decide) (by decide) (by decide)]; rfl
theorem pow12 : powM 10 12 = .ok 1000000000000 := by rw [powK (by decide) (by decide) (by decide)]; rfl
theorem pow18 : powM 10 18 = .ok 1000000000000000000 := by rw [powK (by decide) (by decide) (by decide)]; rfl
theorem okI_of {i : Int} (h : -4000000000000000000 ≤ i) (h2 : i ≤ 4000000000000000000) : okI i = true := by
  unfold okI
  exact decide_eq_true ⟨by omega, by omega⟩
theorem rngK {lo hi : Int} (h1 : -4000000000000000000 ≤ lo) (h2 : lo ≤ 4000000000000000000) (h3 : -4000000000000000000 ≤ hi) (h4 : hi ≤ 4000000000000000000) : rngM lo hi = .ok (rng lo hi) := by
  unfold rngM
  rw [okI_of h1 h2, okI_of h3 h4]; rfl
theorem rngLK {lo hi : Int} (h1 : -1000000 ≤ lo) (h2 : lo ≤ 1000000) (h3 : -1000000 ≤ hi) (h4 : hi ≤ 1000000) : rngL lo hi = .ok (rng lo hi) := by
  unfold rngL
  rw [okI_of (by omega) (by omega), okI_of (by omega) (by omega)]
  have : decide ((hi - lo).toNat ≤ line) = true := decide_eq_true (by unfold line; omega)
  rw [this]; rfl
/-! ### items -/
theorem ixE {α : Type} {xs : List α} {i : Int} {x : α} (h : 0 ≤ i) (h2 : xs[i.toNat]? = some x) : ixM xs i = .ok x := by
  obtain ⟨n, rfl⟩ := Int.eq_ofNat_of_zero_le h
  have q : atI xs (n : Int) = some x := atI_nat (by simpa using h2)
  unfold ixM
  rw [q]
theorem ixK {α : Type} {xs : List α} {i : Int} (h : 0 ≤ i) (h2 : i < xs.length) : ∃ x, xs[i.toNat]? = some x ∧ ixM xs i = .ok x := by
  have hl : i.toNat < xs.length := by omega
  exact ⟨xs[i.toNat], List.getElem?_eq_getElem hl, ixE h (List.getElem?_eq_getElem hl)⟩
theorem rng_getE {lo hi : Int} {i : Nat} {x : Int} (h : (rng lo hi)[i]? = some x) : x = lo + i ∧ i < (hi - lo).toNat := by
  have hl : i < (rng lo hi).length := (List.getElem?_eq_some_iff.mp h).1
  rw [rng_len] at hl
  rw [rng_get hl] at h
  cases h
  exact ⟨rfl, hl⟩
theorem mem_rng {lo hi x : Int} : x ∈ rng lo hi ↔ lo ≤ x ∧ x < hi := by
  unfold rng
  rw [List.mem_map]
  constructor
  · rintro ⟨i, h, rfl⟩
    rw [List.mem_range] at h
    omega
  · rintro ⟨h1, h2⟩
    exact ⟨(x - lo).toNat, List.mem_range.mpr (by omega), by omega⟩
theorem rng_nil {lo hi : Int} (h : hi ≤ lo) : rng lo hi = [] := by
  unfold rng
  rw [show (hi - lo).toNat = 0 by omega]; rfl
theorem rng_app {lo mid hi : Int} (h1 : lo ≤ mid) (h2 : mid ≤ hi) : rng lo hi = rng lo mid ++ rng mid hi := by
  apply List.ext_getElem?
  intro i
  by_cases h : i < (mid - lo).toNat
  · rw [List.getElem?_append_left (by rw [rng_len]; exact h), rng_get h, rng_get (by omega)]
  · rw [List.getElem?_append_right (by rw [rng_len]; omega), rng_len]
    by_cases h3 : i < (hi - lo).toNat
    · rw [rng_get h3, rng_get (by omega)]
      congr 1
      omega
    · rw [List.getElem?_eq_none (by rw [rng_len]; omega), List.getElem?_eq_none (by rw [rng_len]; omega)]
theorem rng_map {lo hi d : Int} : (rng lo hi).map (fun x => x + d) = rng (lo + d) (hi + d) := by
  unfold rng
  rw [List.map_map, show (hi + d - (lo + d)).toNat = (hi - lo).toNat by omega]
  apply List.map_congr_left
  intro i _
  show lo + (i : Int) + d = lo + d + i
  omega
/-! ### loops -/
section
variable {α γ δ ρ : Type}
/-- a loop by an invariant: what is wanted of its outcome -/
theorem forM_wp {f : α → γ → M (Out γ γ ρ)} (Q : M (Out γ δ ρ) → Prop) : ∀ (xs : List α) (s0 : γ) (I : Nat → γ → Prop), I 0 s0 →
    (∀ (i : Nat) (x : α) (s : γ), xs[i]? = some x → I i s → match f x s with
      | .ok (.nx s') => I (i + 1) s'
      | .ok (.ct s') => I (i + 1) s'
      | .ok (.bk s') => Q (.ok (.nx s'))
      | .ok (.rt r) => Q (.ok (.rt r))
      | .er e => Q (.er e)
      | .no => Q .no) → (∀ s, I xs.length s → Q (.ok (.nx s))) → Q (forM f xs s0)
  | [], s0, I, h0, _, hf => hf s0 h0
  | x :: xs, s0, I, h0, hs, hf => by
    have h := hs 0 x s0 rfl h0
    have again : ∀ s', I 1 s' → Q (forM f xs s') := fun s' h1 =>
      forM_wp Q xs s' (fun i s => I (i + 1) s) h1 (fun i y s hy hi => hs (i + 1) y s (by simpa using hy) hi) fun s hi => hf s hi
    unfold forM
    cases hfx : f x s0 with
    | ok o =>
      rw [hfx] at h
      cases o with
      | nx s' => exact again s' h
      | ct s' => exact again s' h
      | bk s' => exact h
      | rt r => exact h
    | er e => rw [hfx] at h; exact h
    | no => rw [hfx] at h; exact h
/-- it runs to its end -/
theorem forM_run {f : α → γ → M (Out γ γ ρ)} (xs : List α) (s0 : γ) (I : Nat → γ → Prop) (h0 : I 0 s0) (hs : ∀ (i : Nat) (x : α) (s : γ), xs[i]? = some x → I i s → ∃ s', f x s = .ok (.nx s') ∧ I (i + 1) s') :
    ∃ s, (forM f xs s0 : M (Out γ δ ρ)) = .ok (.nx s) ∧ I xs.length s :=
  forM_wp (fun m => ∃ s, m = .ok (.nx s) ∧ I xs.length s) xs s0 I h0 (fun i x s hx hi => by
    obtain ⟨s', h1, h2⟩ := hs i x s hx hi
    rw [h1]
    exact h2) fun s h => ⟨s, rfl, h⟩
/-- nothing happens in it -/
theorem forM_pass {f : α → γ → M (Out γ γ ρ)} : ∀ {xs : List α} {s0 : γ}, (∀ x ∈ xs, f x s0 = .ok (.nx s0)) → (forM f xs s0 : M (Out γ δ ρ)) = .ok (.nx s0)
  | [], _, _ => rfl
  | x :: xs, s0, h => by
    unfold forM
    rw [h x List.mem_cons_self]
    exact forM_pass fun y hy => h y (List.mem_cons_of_mem _ hy)
/-- it leaves at the first x that c tells -/
theorem forM_brk {f : α → γ → M (Out γ γ ρ)} (c : α → Bool) (g : α → γ → γ) : ∀ {xs : List α} {s0 : γ}, (∀ x ∈ xs, ∀ s, f x s = if c x then .ok (.bk s) else .ok (.nx (g x s))) →
    (forM f xs s0 : M (Out γ δ ρ)) = .ok (.nx ((xs.takeWhile fun x => !c x).foldl (fun s x => g x s) s0))
  | [], _, _ => rfl
  | x :: xs, s0, h => by
    unfold forM
    rw [h x List.mem_cons_self]
    cases hc : c x with
    | true => simp [hc]
    | false =>
      simp only [Bool.false_eq_true, if_false]
      rw [forM_brk c g fun y hy => h y (List.mem_cons_of_mem _ hy)]
      simp [hc]
/-- .. or returns there -/
theorem forM_ret {f : α → γ → M (Out γ γ ρ)} (c : α → Bool) (r : α → ρ) : ∀ {xs : List α} {s0 : γ}, (∀ x ∈ xs, f x s0 = if c x then .ok (.rt (r x)) else .ok (.nx s0)) →
    (forM f xs s0 : M (Out γ δ ρ)) = match xs.find? c with
      | some x => .ok (.rt (r x))
      | none => .ok (.nx s0)
  | [], _, _ => rfl
  | x :: xs, s0, h => by
    unfold forM
    rw [h x List.mem_cons_self]
    cases hc : c x with
    | true => simp [hc]
    | false =>
      simp only [Bool.false_eq_true, if_false, List.find?, hc]
      exact forM_ret c r fun y hy => h y (List.mem_cons_of_mem _ hy)
theorem foldl_app {xs acc : List α} : xs.foldl (fun s x => s ++ [x]) acc = acc ++ xs := by
  induction xs generalizing acc with
  | nil => simp
  | cons x xs ih => rw [List.foldl_cons, ih]; simp
theorem forM_congr {f g : α → γ → M (Out γ γ ρ)} : ∀ {xs : List α} {s0 : γ}, (∀ x ∈ xs, ∀ s, f x s = g x s) → (forM f xs s0 : M (Out γ δ ρ)) = forM g xs s0
  | [], _, _ => rfl
  | x :: xs, s0, h => by
    unfold forM
    rw [h x List.mem_cons_self]
    have ih : ∀ s, (forM f xs s : M (Out γ δ ρ)) = forM g xs s := fun s => forM_congr fun y hy => h y (List.mem_cons_of_mem _ hy)
    cases g x s0 with
    | ok o => cases o <;> simp [ih]
    | er e => rfl
    | no => rfl
end
theorem tw_map {α β : Type} (f : α → β) (q : β → Bool) : ∀ xs : List α, (xs.map f).takeWhile q = (xs.takeWhile fun x => q (f x)).map f
  | [] => rfl
  | x :: xs => by
    rw [List.map_cons]
    cases h : q (f x) with
    | true => simp [h, tw_map f q xs]
    | false => simp [h]
theorem tw_len {α : Type} (q : α → Bool) (xs : List α) : (xs.takeWhile q).length ≤ xs.length := (List.takeWhile_prefix q).length_le
theorem lineK {n : Nat} (h : n ≤ 1000000) : n ≤ line := Nat.le_trans h (by decide)
theorem appK {α : Type} {xs : List α} {x : α} (h : xs.length ≤ 1000000) : app xs x = .ok (xs ++ [x]) := app_ok (Nat.lt_of_le_of_lt h (by decide))
theorem catK {α : Type} {xs ys : List α} (h : xs.length + ys.length ≤ 1000000) : catM xs ys = .ok (xs ++ ys) := if_pos (lineK h)
theorem repK {α : Type} {xs : List α} {k : Int} (h : xs.length * k.toNat ≤ 1000000) (h2 : k < 1000000) (h3 : 0 ≤ k) : repM xs k = .ok (List.replicate k.toNat xs).flatten := if_pos ⟨lineK h, by omega, by omega⟩
theorem rep1 {α : Type} {x : α} {k : Int} (h2 : k < 1000000) (h3 : 0 ≤ k) : repM [x] k = .ok (List.replicate k.toNat x) := by
  rw [repK (by rw [List.length_singleton]; omega) h2 h3]
  congr 1
  generalize k.toNat = n
  induction n with
  | zero => rfl
  | succ n ih => rw [List.replicate_succ, List.flatten_cons, ih, List.replicate_succ]; rfl
theorem cut1 {α : Type} (xs : List α) : cut xs (some 1) none = xs.drop 1 := by
  unfold cut
  rw [show HT.sIx xs.length 0 (some 1) = min 1 xs.length from HT.sIx_nat xs.length 0 1, HT.sIx_none]
  cases xs with
  | nil => rfl
  | cons x r =>
    rw [show min 1 (x :: r).length = 1 by rw [List.length_cons]; omega]
    show (List.take ((x :: r).length - 1) r) = r
    rw [List.length_cons, Nat.add_sub_cancel]
    exact List.take_length
end DL

namespace DL
open PySem L2
/-! ## the laws' own helpers, the standing -/
def kc__law_cell (script : (List Int)) (k : Int) : M (Out Unit Empty Int) := if (decide (k < (script.length : Int))) = true then mb (ixM script k) fun v1 => .ok (.rt v1)
    else .ok (.rt 0)
def k__law_cell (script : (List Int)) (k : Int) : M Int := fnV .no (kc__law_cell script k)
def kc__law_draws (cell : Int) (sizes : (List Int)) : M (Out Unit Empty (List Int)) := mb (rngM 0 (sizes.length : Int)) fun v1 => sq (forM (fun (k2 : Int) (s3 : Int × List Int) =>
    mb (mb (powM 10 18) fun v4 => (.ok (decide (v4 ≤ cell)))) fun v5 => if v5 = true then mb (mb (ixM sizes k2) fun v6 => modM s3.1 v6) fun v7 => mb (app s3.2 v7) fun draws8 =>
    mb (mb (ixM sizes k2) fun v9 => divM s3.1 v9) fun left10 =>
    .ok (.nx (left10, draws8))
    else mb (mb (mb (mb (mulM 7919 k2) fun v11 => (.ok (cell + v11))) fun v12 => (.ok (v12 + 13))) fun v13 => modM v13 2147483647) fun mixed14 =>
    mb (mb (mulM mixed14 (mixed14 + 48271)) fun v15 => modM v15 2147483629) fun mixed16 =>
    mb (mb (mb (mulM mixed16 (mixed16 + 69621)) fun v17 => mb (mulM 31 k2) fun v18 => (.ok (v17 + v18))) fun v19 => modM v19 2147483647) fun mixed20 =>
    mb (mb (divM mixed20 9) fun v21 => mb (ixM sizes k2) fun v22 => modM v21 v22) fun v23 => mb (app s3.2 v23) fun draws24 =>
    .ok (.nx (s3.1, draws24))) v1 (cell, ([] : List Int))) fun s25 =>
    .ok (.rt s25.2)
def k__law_draws (cell : Int) (sizes : (List Int)) : M (List Int) := fnV .no (kc__law_draws cell sizes)
def kc__law_lengths (cell : Int) (many : Int) : M (Out Unit Empty (List Int)) := mb (mb (k__law_draws cell [4]) fun v1 => ixM v1 0) fun flavour2 =>
    mb (mb (mb (powM 10 9) fun v3 => (.ok [1, 1, 4, v3])) fun v4 => ixM v4 flavour2) fun size5 =>
    mb (mb (mb (mb (mb (repM [size5] many) fun v6 => catM [4] v6) fun v7 => k__law_draws cell v7) fun v8 => (.ok (cut v8 (some 1) none))) fun v9 => mapC (fun draw10 => (.ok (1 + draw10))) v9) fun v11 => .ok (.rt v11)
def k__law_lengths (cell : Int) (many : Int) : M (List Int) := fnV .no (kc__law_lengths cell many)
def kc__law_strengths (cell : Int) (sizes : (List Int)) : M (Out Unit Empty (List Int)) := mb (mb (k__law_draws cell [6]) fun v1 => ixM v1 0) fun flavour2 =>
    if (decide (flavour2 = 3)) = true then mb (mb (mb (mb (mapC (fun size3 => (.ok (size3 + 1))) sizes) fun v4 => catM [6] v4) fun v5 => k__law_draws cell v5) fun v6 => (.ok (cut v6 (some 1) none))) fun v7 => .ok (.rt v7)
    else if (decide (flavour2 = 4)) = true then mb (mb (k__law_draws cell [6, sizes.sum + 3]) fun v8 => ixM v8 1) fun level9 =>
    mb (mapC (fun size10 => (.ok level9)) sizes) fun v11 => .ok (.rt v11)
    else mb (mb (mb (mb (powM 10 12) fun v12 => (.ok (v12 + 1))) fun v13 => (.ok [3, (sizes.length : Int) + 2, sizes.sum + 3, 0, 0, v13])) fun v14 => ixM v14 flavour2) fun most15 =>
    mb (mb (mb (mb (repM [most15] (sizes.length : Int)) fun v16 => catM [6] v16) fun v17 => k__law_draws cell v17) fun v18 => (.ok (cut v18 (some 1) none))) fun v19 => .ok (.rt v19)
def k__law_strengths (cell : Int) (sizes : (List Int)) : M (List Int) := fnV .no (kc__law_strengths cell sizes)
def kc_Beads___init__ (strengths : (List Int)) (lengths : (List Int)) (ring : Bool) : M (Out BV Empty Unit) := (fun (j1 : (List Int)) =>
    if ((decide (strengths = ([] : List Int))) || (!decide ((j1.length : Int) = (strengths.length : Int)))) = true then .er ⟨"BadBeads", [("place", eI (-1))]⟩
    else mb (rngM 0 (strengths.length : Int)) fun v2 => sq (forM (fun (place3 : Int) (s4 : Unit) =>
    mb (mb (mb (ixM strengths place3) fun v5 => (.ok (decide (v5 < 0)))) fun v6 => if v6 = true then .ok true else mb (ixM j1 place3) fun v7 => (.ok (decide (v7 < 1)))) fun v8 => if v8 = true then .er ⟨"BadBeads", [("place", eI place3)]⟩
    else .ok (.nx ())) v2 ()) fun s9 =>
    .ok (.nx ⟨strengths, j1, ring⟩)) lengths
def k_Beads___init__ (strengths : (List Int)) (lengths : (List Int)) (ring : Bool) : M BV := fnI (kc_Beads___init__ strengths lengths ring)
def kc_Beads___len__ (self : BV) : M (Out Unit Empty Int) := .ok (.rt (self.strengths.length : Int))
def k_Beads___len__ (self : BV) : M Int := fnV .no (kc_Beads___len__ self)
def kc_check_place (place : Int) (size : Int) : M (Out Unit Empty Unit) := if ((decide (place < 0)) || (decide (size ≤ place))) = true then .er ⟨"BadPlace", [("place", eI place)]⟩
    else .ok (.nx ())
def k_check_place (place : Int) (size : Int) : M Unit := fnV (.ok ()) (kc_check_place place size)
def kc_run_of (beads : BV) (place : Int) : M (Out Unit Empty (List Int)) := mb (mb (mb (k_Beads___len__ beads) lenO) fun v1 => rngL (place + 1) v1) fun after2 =>
    sq (if beads.ring = true then mb (mb (rngL 0 place) fun v3 => catM after2 v3) fun after4 =>
    .ok (.nx after4) else .ok (.nx after2)) fun (j5 : List Int) =>
    .ok (.rt j5)
def k_run_of (beads : BV) (place : Int) : M (List Int) := fnV .no (kc_run_of beads place)
def kc_train_of (beads : BV) (place : Int) : M (Out Unit Empty (List Int)) := mb (mb (mb (k_Beads___len__ beads) lenO) fun v1 => k_check_place place v1) fun v2 => mb (k_run_of beads place) fun v3 => sq (forM (fun (at4 : Int) (s5 : List Int) =>
    mb (mb (ixM beads.strengths at4) fun v6 => mb (ixM beads.strengths place) fun v7 => (.ok (decide (v7 ≤ v6)))) fun v8 => if v8 = true then .ok (.bk s5)
    else mb (app s5 at4) fun train9 =>
    .ok (.nx train9)) v3 ([] : List Int)) fun s10 =>
    .ok (.rt s10)
def k_train_of (beads : BV) (place : Int) : M (List Int) := fnV .no (kc_train_of beads place)
def kc_reach_of (beads : BV) (place : Int) : M (Out Unit Empty Int) := mb (k_train_of beads place) fun train1 =>
    mb (mb (ixM beads.lengths place) fun v2 => mb (mb (mapC (fun at3 => ixM beads.lengths at3) train1) fun v4 => (.ok v4.sum)) fun v5 => (.ok (v2 + v5))) fun v6 => .ok (.rt v6)
def k_reach_of (beads : BV) (place : Int) : M Int := fnV .no (kc_reach_of beads place)
def kc_reaches (beads : BV) : M (Out Unit Empty (List Int)) := mb (mb (mb (mb (k_Beads___len__ beads) lenO) fun v1 => rngM 0 v1) fun v2 => mapC (fun place3 => k_reach_of beads place3) v2) fun v4 => .ok (.rt v4)
def k_reaches (beads : BV) : M (List Int) := fnV .no (kc_reaches beads)
def kc_stopper_of (beads : BV) (place : Int) : M (Out Unit Empty (Option Int)) := mb (mb (mb (k_Beads___len__ beads) lenO) fun v1 => k_check_place place v1) fun v2 => mb (k_run_of beads place) fun v3 => sq (forM (fun (at4 : Int) (s5 : Unit) =>
    mb (mb (ixM beads.strengths at4) fun v6 => mb (ixM beads.strengths place) fun v7 => (.ok (decide (v7 ≤ v6)))) fun v8 => if v8 = true then .ok (.rt (some at4))
    else .ok (.nx ())) v3 ()) fun s9 =>
    .ok (.rt (none : Option Int))
def k_stopper_of (beads : BV) (place : Int) : M (Option Int) := fnV (.ok none) (kc_stopper_of beads place)
def kc__law_is_integer (actual : Int) : M (Out Unit Empty Bool) := .ok (.rt (true && (!false)))
def k__law_is_integer (actual : Int) : M Bool := fnV .no (kc__law_is_integer actual)
def kc__law_is_integer_v1 (actual : (Option Int)) : M (Out Unit Empty Bool) := .ok (.rt ((if actual.isSome = true then true else false) && (!(if actual.isSome = true then false else false))))
def k__law_is_integer_v1 (actual : (Option Int)) : M Bool := fnV .no (kc__law_is_integer_v1 actual)
def kc__law_numbers (actual : (List Int)) (due : (List Int)) (as_tuple : Bool) : M (Out Unit Empty Bool) := if ((as_tuple && (!false)) || ((!as_tuple) && (!true))) = true then .ok (.rt false)
    else if (!decide ((actual.length : Int) = (due.length : Int))) = true then .ok (.rt false)
    else mb (rngM 0 (due.length : Int)) fun v1 => sq (forM (fun (k2 : Int) (s3 : Unit) =>
    mb (mb (mb (mb (ixM actual k2) fun v4 => k__law_is_integer v4) fun v5 => (.ok (!v5))) fun v6 => if v6 = true then .ok true else mb (ixM actual k2) fun v7 => mb (ixM due k2) fun v8 => (.ok (!decide (v7 = v8)))) fun v9 => if v9 = true then .ok (.rt false)
    else .ok (.nx ())) v1 ()) fun s10 =>
    .ok (.rt true)
def k__law_numbers (actual : (List Int)) (due : (List Int)) (as_tuple : Bool) : M Bool := fnV .no (kc__law_numbers actual due as_tuple)
def kc__law_numbers_v1 (actual : (List Int)) (due : (List Int)) (as_tuple : Bool) : M (Out Unit Empty Bool) := if ((as_tuple && (!true)) || ((!as_tuple) && (!false))) = true then .ok (.rt false)
    else if (!decide ((actual.length : Int) = (due.length : Int))) = true then .ok (.rt false)
    else mb (rngM 0 (due.length : Int)) fun v1 => sq (forM (fun (k2 : Int) (s3 : Unit) =>
    mb (mb (mb (mb (ixM actual k2) fun v4 => k__law_is_integer v4) fun v5 => (.ok (!v5))) fun v6 => if v6 = true then .ok true else mb (ixM actual k2) fun v7 => mb (ixM due k2) fun v8 => (.ok (!decide (v7 = v8)))) fun v9 => if v9 = true then .ok (.rt false)
    else .ok (.nx ())) v1 ()) fun s10 =>
    .ok (.rt true)
def k__law_numbers_v1 (actual : (List Int)) (due : (List Int)) (as_tuple : Bool) : M Bool := fnV .no (kc__law_numbers_v1 actual due as_tuple)
def kc__law_is_standing (actual : BV) (round_flag : Bool) (sizes : (List Int)) (strengths : (List Int)) : M (Out Unit Empty Bool) := if ((!true) || ((!true) || (!decide (actual.ring = round_flag)))) = true then .ok (.rt false)
    else mb (mb (k__law_numbers_v1 actual.lengths sizes true) fun v1 => if v1 = true then k__law_numbers_v1 actual.strengths strengths true else .ok false) fun v2 => .ok (.rt v2)
def k__law_is_standing (actual : BV) (round_flag : Bool) (sizes : (List Int)) (strengths : (List Int)) : M Bool := fnV .no (kc__law_is_standing actual round_flag sizes strengths)
theorem k_ok {β γ ρ : Type} {d : M ρ} {x : ρ} : fnV d (.ok (.rt x) : M (Out β γ ρ)) = .ok x := rfl
theorem cellK (ns : List Int) {k : Int} (h : 0 ≤ k) : ∃ c, k__law_cell ns k = .ok c := by
  unfold k__law_cell kc__law_cell
  by_cases q : k < (ns.length : Int)
  · obtain ⟨x, _, h2⟩ := ixK h q
    rw [if_pos (decide_eq_true q), h2]
    exact ⟨x, rfl⟩
  · rw [if_neg (by simp [q])]
    exact ⟨0, rfl⟩
/-- what a draw may be -/
def Drawn (sizes ds : List Int) : Prop := ds.length = sizes.length ∧ ∀ (i : Nat) (s d : Int), sizes[i]? = some s → ds[i]? = some d → 0 ≤ d ∧ d < s
theorem drawsK (cell : Int) {sizes : List Int} (hl : sizes.length ≤ 100000) (hs : ∀ s ∈ sizes, 0 < s ∧ s < 2 ^ 100) : ∃ ds, k__law_draws cell sizes = .ok ds ∧ Drawn sizes ds := by
  unfold k__law_draws kc__law_draws
  rw [rngK (by decide) (by decide) (by omega) (by omega), mbk]
  obtain ⟨s, h1, h2, h3⟩ := forM_run (ρ := List Int) (δ := Empty) (f := fun (k2 : Int) (s3 : Int × List Int) =>
    mb (mb (powM 10 18) fun v4 => (.ok (decide (v4 ≤ cell)))) fun v5 => if v5 = true then mb (mb (ixM sizes k2) fun v6 => modM s3.1 v6) fun v7 => mb (app s3.2 v7) fun draws8 =>
    mb (mb (ixM sizes k2) fun v9 => divM s3.1 v9) fun left10 =>
    .ok (.nx (left10, draws8))
    else mb (mb (mb (mb (mulM 7919 k2) fun v11 => (.ok (cell + v11))) fun v12 => (.ok (v12 + 13))) fun v13 => modM v13 2147483647) fun mixed14 =>
    mb (mb (mulM mixed14 (mixed14 + 48271)) fun v15 => modM v15 2147483629) fun mixed16 =>
    mb (mb (mb (mulM mixed16 (mixed16 + 69621)) fun v17 => mb (mulM 31 k2) fun v18 => (.ok (v17 + v18))) fun v19 => modM v19 2147483647) fun mixed20 =>
    mb (mb (divM mixed20 9) fun v21 => mb (ixM sizes k2) fun v22 => modM v21 v22) fun v23 => mb (app s3.2 v23) fun draws24 =>
    .ok (.nx (s3.1, draws24))) (rng 0 (sizes.length : Int)) (cell, []) (fun i s => s.2.length = i ∧ ∀ (j : Nat) (z d : Int), sizes[j]? = some z → s.2[j]? = some d → 0 ≤ d ∧ d < z) ⟨rfl, fun j z d _ h => by simp at h⟩ (fun i x s hx hi => by
      obtain ⟨rfl, hlt⟩ := rng_getE hx
      have hlt' : i < sizes.length := by omega
      obtain ⟨hlen, hall⟩ := hi
      have hz : sizes[(0 + (i : Int)).toNat]? = some sizes[i] := by
        rw [show (0 + (i : Int)).toNat = i by omega]; exact List.getElem?_eq_getElem hlt'
      have hix : ixM sizes (0 + (i : Int)) = .ok sizes[i] := ixE (by omega) hz
      have hpos := hs _ (List.getElem_mem hlt')
      have add : ∀ d : Int, 0 ≤ d ∧ d < sizes[i] → (s.2 ++ [d]).length = i + 1 ∧ ∀ (j : Nat) (z d' : Int), sizes[j]? = some z → (s.2 ++ [d])[j]? = some d' → 0 ≤ d' ∧ d' < z := fun d hd => by
        refine ⟨by rw [List.length_append, hlen]; rfl, fun j z d' hj hd' => ?_⟩
        by_cases hji : j < s.2.length
        · rw [List.getElem?_append_left hji] at hd'
          exact hall j z d' hj hd'
        · rw [List.getElem?_append_right (by omega)] at hd'
          have : j - s.2.length = 0 := by
            cases q : j - s.2.length with
            | zero => rfl
            | succ n => rw [q] at hd'; simp at hd'
          have hj' : j = i := by omega
          subst hj'
          rw [this] at hd'
          rw [List.getElem?_eq_getElem hlt'] at hj
          cases hj
          simp at hd'
          subst hd'
          exact hd
      have mm : ∀ a : Int, 0 ≤ a % sizes[i] ∧ a % sizes[i] < sizes[i] := fun a => ⟨Int.emod_nonneg _ (by omega), Int.emod_lt_of_pos _ hpos.1⟩
      have p100 : (2 : Int) ^ 100 < 2 ^ 1000 := by decide
      simp only [pow18, mbk, hix]
      by_cases hc : (1000000000000000000 : Int) ≤ cell
      · rw [if_pos (decide_eq_true hc), modK hpos.1]
        simp only [mbk]
        rw [appK (by omega)]
        simp only [mbk]
        rw [divK hpos.1 (by omega)]
        exact ⟨_, rfl, add _ (mm _)⟩
      · rw [if_neg (by simp [hc])]
        rw [mulL (by decide)]
        simp only [mbk]
        rw [modK (by decide)]
        simp only [mbk]
        have b1 : ∀ a : Int, 0 ≤ a % 2147483647 ∧ a % 2147483647 < 2147483647 := fun a => ⟨Int.emod_nonneg _ (by decide), Int.emod_lt_of_pos _ (by decide)⟩
        have b2 : ∀ a : Int, 0 ≤ a % 2147483629 ∧ a % 2147483629 < 2147483629 := fun a => ⟨Int.emod_nonneg _ (by decide), Int.emod_lt_of_pos _ (by decide)⟩
        generalize e1 : (cell + 7919 * (0 + (i : Int)) + 13) % 2147483647 = m1
        have h1 := b1 (cell + 7919 * (0 + (i : Int)) + 13)
        rw [e1] at h1
        rw [mulL (by omega)]
        simp only [mbk]
        rw [modK (by decide)]
        simp only [mbk]
        generalize e2 : (m1 * (m1 + 48271)) % 2147483629 = m2
        have h2 := b2 (m1 * (m1 + 48271))
        rw [e2] at h2
        rw [mulL (by omega)]
        simp only [mbk]
        rw [mulL (by decide)]
        simp only [mbk]
        rw [modK (by decide)]
        simp only [mbk]
        rw [divK (by decide) (by decide)]
        simp only [mbk]
        rw [modK hpos.1]
        simp only [mbk]
        rw [appK (by omega)]
        exact ⟨_, rfl, add _ (mm _)⟩)
  refine ⟨s.2, ?_, ?_⟩
  · show fnV .no (sq (forM _ _ _) _) = _
    have h1' : (forM _ _ _ : M (Out (Int × List Int) Empty (List Int))) = _ := h1
    rw [h1', sqk]
    rfl
  · rw [rng_len] at h2
    exact ⟨by omega, h3⟩
theorem Drawn.at {sizes ds : List Int} (h : Drawn sizes ds) (i : Nat) {s : Int} (hs : sizes[i]? = some s) : ∃ d, ixM ds (i : Int) = .ok d ∧ ds[i]? = some d ∧ 0 ≤ d ∧ d < s := by
  have hl : i < ds.length := by rw [h.1]; exact (List.getElem?_eq_some_iff.mp hs).1
  have e := List.getElem?_eq_getElem hl
  obtain ⟨h1, h2⟩ := h.2 i s _ hs e
  exact ⟨ds[i], ixE (by omega) (by simpa using e), e, h1, h2⟩
theorem Drawn.drop {s : Int} {sizes ds : List Int} (h : Drawn (s :: sizes) ds) : Drawn sizes (ds.drop 1) := by
  refine ⟨by rw [List.length_drop, h.1]; rfl, fun i z d hz hd => ?_⟩
  rw [List.getElem?_drop] at hd
  exact h.2 (1 + i) z d (by rw [Nat.add_comm]; simpa using hz) hd
theorem Drawn.mem {sizes ds : List Int} (h : Drawn sizes ds) {d : Int} (hd : d ∈ ds) : ∃ s ∈ sizes, 0 ≤ d ∧ d < s := by
  obtain ⟨i, hi, rfl⟩ := List.mem_iff_getElem.mp hd
  have hl : i < sizes.length := by rw [← h.1]; exact hi
  exact ⟨sizes[i], List.getElem_mem hl, h.2 i _ _ (List.getElem?_eq_getElem hl) (List.getElem?_eq_getElem hi)⟩
theorem mapCk {α β : Type} {g : α → β} {xs : List α} (hl : xs.length ≤ 1000000) : mapC (fun x => .ok (g x)) xs = .ok (xs.map g) := mapC_ok (lineK hl) fun _ _ => rfl
theorem le_sum {xs : List Int} (h : ∀ x ∈ xs, 1 ≤ x ∧ x ≤ 1000000000) : 0 ≤ xs.sum ∧ xs.sum ≤ 1000000000 * (xs.length : Int) := by
  induction xs with
  | nil => simp
  | cons x xs ih =>
    obtain ⟨h1, h2⟩ := ih fun y hy => h y (List.mem_cons_of_mem _ hy)
    have h3 := h x List.mem_cons_self
    rw [List.sum_cons, List.length_cons]
    omega
theorem lengthsK (cell : Int) {many : Int} (h : 0 ≤ many) (h2 : many ≤ 90000) : ∃ zs, k__law_lengths cell many = .ok zs ∧ zs.length = many.toNat ∧ ∀ z ∈ zs, 1 ≤ z ∧ z ≤ 1000000000 := by
  unfold k__law_lengths kc__law_lengths
  obtain ⟨ds, e1, d1⟩ := drawsK cell (sizes := [4]) (by decide) (fun s hs => by rw [List.mem_singleton.mp hs]; decide)
  obtain ⟨f, e2, _, f1, f2⟩ := d1.at 0 rfl
  rw [e1, mbk, show ((0 : Nat) : Int) = 0 from rfl] at *
  rw [e2]
  simp only [pow9, mbk]
  have hsz : ∃ sz, ixM [1, 1, 4, (1000000000 : Int)] f = .ok sz ∧ 1 ≤ sz ∧ sz ≤ 1000000000 := by
    have : f = 0 ∨ f = 1 ∨ f = 2 ∨ f = 3 := by omega
    rcases this with rfl | rfl | rfl | rfl
    · exact ⟨1, rfl, by decide, by decide⟩
    · exact ⟨1, rfl, by decide, by decide⟩
    · exact ⟨4, rfl, by decide, by decide⟩
    · exact ⟨1000000000, rfl, by decide, by decide⟩
  obtain ⟨sz, e3, s1, s2⟩ := hsz
  rw [e3]
  simp only [mbk]
  rw [rep1 (by omega) h, mbk, catK (by simp; omega), mbk]
  obtain ⟨es, e4, d2⟩ := drawsK cell (sizes := [4] ++ List.replicate many.toNat sz) (by simp; omega) (fun s hs => by
    rcases List.mem_append.mp hs with hs | hs
    · rw [List.mem_singleton.mp hs]; decide
    · rw [(List.mem_replicate.mp hs).2]; omega)
  have d3 : Drawn (List.replicate many.toNat sz) (es.drop 1) := d2.drop
  rw [e4, mbk, mbk, cut1]
  have hl3 : (es.drop 1).length = many.toNat := by rw [d3.1, List.length_replicate]
  rw [mapCk (by omega), mbk]
  refine ⟨_, rfl, by rw [List.length_map, hl3], fun z hz => ?_⟩
  obtain ⟨d, hd, rfl⟩ := List.mem_map.mp hz
  obtain ⟨s, hs, h3, h4⟩ := d3.mem hd
  rw [(List.mem_replicate.mp hs).2] at h4
  omega
theorem strengthsB (cell : Int) {sizes : List Int} {B : Int} (hl : sizes.length ≤ 90000) (hs : ∀ z ∈ sizes, 1 ≤ z ∧ z ≤ 1000000000) (hB : 1000000000000 ≤ B) (hB2 : sizes.sum + 2 ≤ B) :
    ∃ ss, k__law_strengths cell sizes = .ok ss ∧ ss.length = sizes.length ∧ ∀ s ∈ ss, 0 ≤ s ∧ s ≤ B := by
  unfold k__law_strengths kc__law_strengths
  obtain ⟨ds, e1, d1⟩ := drawsK cell (sizes := [6]) (by decide) (fun s hs => by rw [List.mem_singleton.mp hs]; decide)
  obtain ⟨f, e2, _, f1, f2⟩ := d1.at 0 rfl
  rw [e1, mbk, show ((0 : Nat) : Int) = 0 from rfl] at *
  rw [e2]
  obtain ⟨t1, t2⟩ := le_sum hs
  simp only [mbk]
  by_cases h3 : f = 3
  · rw [if_pos (decide_eq_true h3), mapCk (g := fun x : Int => x + 1) (by omega), mbk, catK (by simp; omega), mbk]
    obtain ⟨es, e4, d2⟩ := drawsK cell (sizes := [6] ++ sizes.map fun x => x + 1) (by simp; omega) (fun s hs' => by
      rcases List.mem_append.mp hs' with hs' | hs'
      · rw [List.mem_singleton.mp hs']; decide
      · obtain ⟨y, hy, rfl⟩ := List.mem_map.mp hs'
        have := hs y hy
        omega)
    have d3 : Drawn (sizes.map fun x => x + 1) (es.drop 1) := d2.drop
    rw [e4, mbk, mbk, cut1]
    refine ⟨_, rfl, by rw [d3.1, List.length_map], fun z hz => ?_⟩
    obtain ⟨s, hs', h4, h5⟩ := d3.mem hz
    obtain ⟨y, hy, rfl⟩ := List.mem_map.mp hs'
    have := hs y hy
    omega
  · rw [if_neg (by simp [h3])]
    by_cases h4 : f = 4
    · rw [if_pos (decide_eq_true h4)]
      obtain ⟨es, e4, d2⟩ := drawsK cell (sizes := [6, sizes.sum + 3]) (by show (2 : Nat) ≤ 100000; decide) (fun s hs' => by
        rcases List.mem_cons.mp hs' with rfl | hs'
        · decide
        · rw [List.mem_singleton.mp hs']; omega)
      obtain ⟨lv, e5, _, l1, l2⟩ := d2.at 1 rfl
      rw [e4, mbk, show ((1 : Nat) : Int) = 1 from rfl] at *
      rw [e5, mbk, mapCk (g := fun _ : Int => lv) (by omega), mbk]
      refine ⟨_, rfl, by rw [List.length_map], fun z hz => ?_⟩
      obtain ⟨y, hy, rfl⟩ := List.mem_map.mp hz
      omega
    · rw [if_neg (by simp [h4])]
      simp only [pow12, mbk]
      have hm : ∃ mo, ixM [3, (sizes.length : Int) + 2, sizes.sum + 3, 0, 0, 1000000000000 + 1] f = .ok mo ∧ 1 ≤ mo ∧ mo ≤ 100000000000000 ∧ mo ≤ B + 1 := by
        have : f = 0 ∨ f = 1 ∨ f = 2 ∨ f = 5 := by omega
        rcases this with rfl | rfl | rfl | rfl
        · exact ⟨3, rfl, by decide, by decide, by omega⟩
        · exact ⟨(sizes.length : Int) + 2, rfl, by omega, by omega, by omega⟩
        · exact ⟨sizes.sum + 3, rfl, by omega, by omega, by omega⟩
        · exact ⟨1000000000000 + 1, rfl, by decide, by decide, by omega⟩
      obtain ⟨mo, e3, s1, s2, s3⟩ := hm
      rw [e3]
      simp only [mbk]
      rw [rep1 (by omega) (by omega), mbk, catK (by simp; omega), mbk]
      obtain ⟨es, e4, d2⟩ := drawsK cell (sizes := [6] ++ List.replicate (sizes.length : Int).toNat mo) (by simp; omega) (fun s hs => by
        rcases List.mem_append.mp hs with hs | hs
        · rw [List.mem_singleton.mp hs]; decide
        · rw [(List.mem_replicate.mp hs).2]; omega)
      have d3 : Drawn (List.replicate (sizes.length : Int).toNat mo) (es.drop 1) := d2.drop
      rw [e4, mbk, mbk, cut1]
      refine ⟨_, rfl, by rw [d3.1, List.length_replicate]; omega, fun z hz => ?_⟩
      obtain ⟨s, hs, h3, h4⟩ := d3.mem hz
      rw [(List.mem_replicate.mp hs).2] at h4
      omega
theorem strengthsK (cell : Int) {sizes : List Int} (hl : sizes.length ≤ 90000) (hs : ∀ z ∈ sizes, 1 ≤ z ∧ z ≤ 1000000000) :
    ∃ ss, k__law_strengths cell sizes = .ok ss ∧ ss.length = sizes.length ∧ ∀ s ∈ ss, 0 ≤ s ∧ s ≤ 100000000000000 :=
  strengthsB cell hl hs (by decide) (by have := (le_sum hs).2; omega)
/-! ### the law's comparison of numbers -/
theorem isintK (a : Int) : k__law_is_integer a = .ok true := rfl
theorem isintOK (o : Option Int) : k__law_is_integer_v1 o = .ok o.isSome := by cases o <;> rfl
theorem find_none {xs ys : List Int} (h : xs.length = ys.length) : ((rng 0 (ys.length : Int)).find? fun k => !decide (xs[k.toNat]? = ys[k.toNat]?)) = none ↔ xs = ys := by
  rw [List.find?_eq_none]
  constructor
  · intro q
    apply List.ext_getElem?
    intro i
    by_cases hi : i < ys.length
    · have := q (i : Int) (mem_rng.mpr ⟨by omega, by omega⟩)
      simpa using this
    · rw [List.getElem?_eq_none (by omega), List.getElem?_eq_none (by omega)]
  · rintro rfl k _
    simp
theorem numLoop {δ : Type} {xs ys : List Int} (h : xs.length = ys.length) :
    (forM (fun (k317 : Int) (s316 : Unit) => mb (mb (mb (mb (ixM xs k317) fun v318 => k__law_is_integer v318) fun v319 => (.ok (!v319))) fun v322 => if v322 = true then .ok true else mb (ixM xs k317) fun v320 => mb (ixM ys k317) fun v321 => (.ok (!decide (v320 = v321)))) fun v323 => if v323 = true then .ok (.rt false)
    else .ok (.nx ())) (rng 0 (ys.length : Int)) () : M (Out Unit δ Bool)) = if xs = ys then .ok (.nx ()) else .ok (.rt false) := by
  rw [forM_ret (fun k => !decide (xs[k.toNat]? = ys[k.toNat]?)) (fun _ => false)]
  · by_cases e : xs = ys
    · rw [if_pos e, (find_none h).mpr e]
    · rw [if_neg e]
      cases q : ((rng 0 (ys.length : Int)).find? fun k => !decide (xs[k.toNat]? = ys[k.toNat]?)) with
      | none => exact absurd ((find_none h).mp q) e
      | some x => rfl
  · intro k hk
    obtain ⟨h1, h2⟩ := mem_rng.mp hk
    obtain ⟨x, ex, ex'⟩ := ixK (xs := xs) h1 (by omega)
    obtain ⟨y, ey, ey'⟩ := ixK (xs := ys) h1 h2
    rw [ex', ey', ex, ey]
    simp only [mbk, isintK]
    by_cases e : x = y
    · subst e; simp [mbk]
    · simp [mbk, e]
theorem numbersK {xs ys : List Int} (b : Bool) (hl : ys.length ≤ 90000) : k__law_numbers xs ys b = .ok (!b && decide (xs = ys)) := by
  unfold k__law_numbers kc__law_numbers
  cases b with
  | true => rfl
  | false =>
    rw [if_neg (by decide)]
    by_cases h : xs.length = ys.length
    · rw [if_neg (by simp [h]), rngK (by decide) (by decide) (by omega) (by omega), mbk, numLoop h]
      by_cases e : xs = ys
      · rw [if_pos e, sqk]; simp [e]
      · rw [if_neg e]; simp [e]
    · have : xs ≠ ys := fun e => h (by rw [e])
      have h' : ¬ ((xs.length : Int) = (ys.length : Int)) := by omega
      rw [if_pos (by simp [h'])]
      simp [this]
theorem numbersTK {xs ys : List Int} (b : Bool) (hl : ys.length ≤ 90000) : k__law_numbers_v1 xs ys b = .ok (b && decide (xs = ys)) := by
  unfold k__law_numbers_v1 kc__law_numbers_v1
  cases b with
  | false => rfl
  | true =>
    rw [if_neg (by decide)]
    by_cases h : xs.length = ys.length
    · rw [if_neg (by simp [h]), rngK (by decide) (by decide) (by omega) (by omega), mbk, numLoop h]
      by_cases e : xs = ys
      · rw [if_pos e, sqk]; simp [e]
      · rw [if_neg e]; simp [e]
    · have : xs ≠ ys := fun e => h (by rw [e])
      have h' : ¬ ((xs.length : Int) = (ys.length : Int)) := by omega
      rw [if_pos (by simp [h'])]
      simp [this]
theorem standingK {b : BV} {r : Bool} {zs ss : List Int} (h : zs.length ≤ 90000) (h2 : ss.length ≤ 90000) : k__law_is_standing b r zs ss = .ok (decide (b = ⟨ss, zs, r⟩)) := by
  unfold k__law_is_standing kc__law_is_standing
  rw [numbersTK true h, numbersTK true h2]
  obtain ⟨s, l, q⟩ := b
  simp only [mbk, BV.mk.injEq]
  by_cases h1 : q = r
  · subst h1
    by_cases h2 : l = zs
    · by_cases h3 : s = ss <;> simp [h2, h3]
    · simp [h2]
  · simp [h1]
/-! ### standings -/
def sAt (xs : List Int) (i : Int) : Int := xs.getD i.toNat 0
theorem ixS {xs : List Int} {i : Int} (h : 0 ≤ i) (h2 : i < xs.length) : ixM xs i = .ok (sAt xs i) := by
  obtain ⟨x, h3, h4⟩ := ixK h h2
  rw [h4]
  unfold sAt
  rw [List.getD_eq_getElem?_getD, h3]
  rfl
theorem sAt_mem {xs : List Int} {i : Int} (h : 0 ≤ i) (h2 : i < xs.length) : sAt xs i ∈ xs := by
  unfold sAt
  have hl : i.toNat < xs.length := by omega
  rw [List.getD_eq_getElem?_getD, List.getElem?_eq_getElem hl]
  exact List.getElem_mem hl
/-- a good standing -/
structure Good (b : BV) : Prop where
  ne : 0 < b.strengths.length
  len : b.lengths.length = b.strengths.length
  big : b.strengths.length ≤ 90000
  s0 : ∀ s ∈ b.strengths, 0 ≤ s
  l1 : ∀ z ∈ b.lengths, 1 ≤ z
theorem initK {ss zs : List Int} {r : Bool} (g : Good ⟨ss, zs, r⟩) : k_Beads___init__ ss zs r = .ok ⟨ss, zs, r⟩ := by
  obtain ⟨h1, h2, h3, h4, h5⟩ := g
  simp only at h1 h2 h3 h4 h5
  unfold k_Beads___init__ kc_Beads___init__
  simp only
  have e1 : ¬ ss = [] := fun e => by rw [e] at h1; exact absurd h1 (by decide)
  have e2 : (zs.length : Int) = (ss.length : Int) := by omega
  rw [if_neg (by simp [e1, e2]), rngK (by decide) (by decide) (by omega) (by omega), mbk, forM_pass, sqk]
  · rfl
  · intro k hk
    obtain ⟨q1, q2⟩ := mem_rng.mp hk
    have a1 := h4 _ (sAt_mem q1 q2)
    have a2 := h5 _ (sAt_mem (xs := zs) q1 (by omega))
    rw [ixS q1 q2, ixS q1 (by omega)]
    simp only [mbk]
    rw [if_neg (by simp; omega)]
    simp only [mbk]
    rw [if_neg (by simp; omega)]
theorem lenK {b : BV} (h : b.strengths.length ≤ 90000) : mb (k_Beads___len__ b) lenO = .ok (b.strengths.length : Int) := by
  show mb (.ok (b.strengths.length : Int)) lenO = _
  rw [mbk]
  unfold lenO
  rw [if_pos ⟨by omega, by omega⟩]
theorem checkK {p n : Int} (h : 0 ≤ p) (h2 : p < n) : k_check_place p n = .ok () := by
  unfold k_check_place kc_check_place
  rw [if_neg (by simp; omega)]; rfl
theorem checkE {p n : Int} (h : p < 0 ∨ n ≤ p) : k_check_place p n = .er ⟨"BadPlace", [("place", eI p)]⟩ := by
  unfold k_check_place kc_check_place
  rw [if_pos (by simp; omega)]; rfl
/-- the places from p on, in their order -/
def runsV (ring : Bool) (n p : Int) : List Int := rng (p + 1) n ++ if ring = true then rng 0 p else []
theorem runs_mem {ring : Bool} {n p x : Int} (h0 : 0 ≤ p) (h1 : p < n) (h : x ∈ runsV ring n p) : 0 ≤ x ∧ x < n := by
  unfold runsV at h
  rcases List.mem_append.mp h with h | h
  · have := mem_rng.mp h; omega
  · split at h
    · have := mem_rng.mp h; omega
    · cases h
theorem runs_len {ring : Bool} {n p : Int} (h0 : 0 ≤ p) (h1 : p < n) : (runsV ring n p).length ≤ n.toNat := by
  unfold runsV
  rw [List.length_append, rng_len]
  split
  · rw [rng_len]; omega
  · rw [List.length_nil]; omega
theorem runK {b : BV} {p : Int} (h : b.strengths.length ≤ 90000) (h1 : 0 ≤ p) (h2 : p < b.strengths.length) : k_run_of b p = .ok (runsV b.ring b.strengths.length p) := by
  unfold k_run_of kc_run_of
  rw [lenK h, mbk, rngLK (by omega) (by omega) (by omega) (by omega), mbk, rngLK (by omega) (by omega) (by omega) (by omega), mbk]
  unfold runsV
  cases b.ring with
  | true =>
    rw [if_pos rfl, catK (by rw [rng_len, rng_len]; omega)]
    simp only [mbk, sqk]
    rfl
  | false =>
    simp only [Bool.false_eq_true, if_false, sqk, List.append_nil]
    rfl
def trainV (ring : Bool) (ss : List Int) (p : Int) : List Int := (runsV ring ss.length p).takeWhile fun x => !decide (sAt ss p ≤ sAt ss x)
def stopV (ring : Bool) (ss : List Int) (p : Int) : Option Int := (runsV ring ss.length p).find? fun x => decide (sAt ss p ≤ sAt ss x)
theorem train_mem {ring : Bool} {ss : List Int} {p x : Int} (h0 : 0 ≤ p) (h1 : p < ss.length) (h : x ∈ trainV ring ss p) : 0 ≤ x ∧ x < ss.length := runs_mem h0 h1 (List.takeWhile_subset _ h)
theorem train_len {ring : Bool} {ss : List Int} {p : Int} (h0 : 0 ≤ p) (h1 : p < ss.length) : (trainV ring ss p).length ≤ ss.length := by
  have := runs_len (ring := ring) h0 h1
  have := tw_len (fun x => !decide (sAt ss p ≤ sAt ss x)) (runsV ring ss.length p)
  unfold trainV
  omega
theorem trainLoop {δ ρ : Type} {ss xs : List Int} {p : Int} (hp : 0 ≤ p ∧ p < ss.length) (h : ∀ x ∈ xs, 0 ≤ x ∧ x < ss.length) (hl : xs.length ≤ 900000) :
    (forM (fun (at4 : Int) (s5 : List Int) => mb (mb (ixM ss at4) fun v6 => mb (ixM ss p) fun v7 => (.ok (decide (v7 ≤ v6)))) fun v8 => if v8 = true then .ok (.bk s5) else mb (app s5 at4) fun train9 => .ok (.nx train9)) xs [] : M (Out (List Int) δ ρ)) =
      .ok (.nx (xs.takeWhile fun x => !decide (sAt ss p ≤ sAt ss x))) := by
  simp only [ixS hp.1 hp.2, mbk]
  have key : ∀ (ys acc : List Int), (∀ x ∈ ys, 0 ≤ x ∧ x < ss.length) → acc.length + ys.length ≤ 900000 → (forM (fun (at4 : Int) (s5 : List Int) => mb (mb (ixM ss at4) fun v6 => .ok (decide (sAt ss p ≤ v6))) fun v8 => if v8 = true then .ok (.bk s5) else mb (app s5 at4) fun train9 => .ok (.nx train9)) ys acc : M (Out (List Int) δ ρ)) =
      .ok (.nx (acc ++ ys.takeWhile fun x => !decide (sAt ss p ≤ sAt ss x))) := by
    intro ys
    induction ys with
    | nil => intro acc _ _; simp
    | cons y ys ih =>
      intro acc hy hlen
      unfold forM
      have h1 := hy y List.mem_cons_self
      rw [List.length_cons] at hlen
      rw [ixS h1.1 h1.2]
      simp only [mbk]
      by_cases c : sAt ss p ≤ sAt ss y
      · rw [if_pos (decide_eq_true c)]
        simp [c]
      · rw [if_neg (by simp [c]), appK (by omega)]
        simp only [mbk]
        rw [ih _ (fun x hx => hy x (List.mem_cons_of_mem _ hx)) (by rw [List.length_append, List.length_singleton]; omega)]
        simp [c]
  have := key xs [] h (by simpa using hl)
  simpa using this
theorem trainK {b : BV} {p : Int} (h : b.strengths.length ≤ 90000) (h1 : 0 ≤ p) (h2 : p < b.strengths.length) : k_train_of b p = .ok (trainV b.ring b.strengths p) := by
  unfold k_train_of kc_train_of
  have rl := runs_len (ring := b.ring) h1 h2
  rw [lenK h, mbk, checkK h1 h2, mbk, runK h h1 h2, mbk, trainLoop ⟨h1, h2⟩ (fun x hx => runs_mem h1 h2 hx) (by omega), sqk]
  rfl
theorem trainE {b : BV} {p : Int} (h : b.strengths.length ≤ 90000) (h1 : p < 0 ∨ (b.strengths.length : Int) ≤ p) : k_train_of b p = .er ⟨"BadPlace", [("place", eI p)]⟩ := by
  unfold k_train_of kc_train_of
  rw [lenK h, mbk, checkE h1]
  rfl
def reachV (b : BV) (p : Int) : Int := sAt b.lengths p + ((trainV b.ring b.strengths p).map (sAt b.lengths)).sum
theorem reachK {b : BV} {p : Int} (g : Good b) (h1 : 0 ≤ p) (h2 : p < b.strengths.length) : k_reach_of b p = .ok (reachV b p) := by
  unfold k_reach_of kc_reach_of
  have hl := train_len (ring := b.ring) h1 h2
  have := g.big
  have := g.len
  rw [trainK g.big h1 h2, mbk, ixS h1 (by omega), mbk, mapC_ok (g := sAt b.lengths) (lineK (by omega)) fun x hx => by
    have := train_mem h1 h2 hx
    exact ixS this.1 (by omega)]
  simp only [mbk]
  rfl
theorem reachE {b : BV} {p : Int} (h : b.strengths.length ≤ 90000) (h1 : p < 0 ∨ (b.strengths.length : Int) ≤ p) : k_reach_of b p = .er ⟨"BadPlace", [("place", eI p)]⟩ := by
  unfold k_reach_of kc_reach_of
  rw [trainE h h1]
  rfl
theorem stopK {b : BV} {p : Int} (h : b.strengths.length ≤ 90000) (h1 : 0 ≤ p) (h2 : p < b.strengths.length) : k_stopper_of b p = .ok (stopV b.ring b.strengths p) := by
  unfold k_stopper_of kc_stopper_of
  rw [lenK h, mbk, checkK h1 h2, mbk, runK h h1 h2, mbk, forM_ret (fun x => decide (sAt b.strengths p ≤ sAt b.strengths x)) some]
  · unfold stopV
    cases (runsV b.ring b.strengths.length p).find? fun x => decide (sAt b.strengths p ≤ sAt b.strengths x) with
    | none => rfl
    | some x => rfl
  · intro x hx
    have := runs_mem h1 h2 hx
    rw [ixS this.1 this.2, ixS h1 h2]
    simp only [mbk]
theorem stopE {b : BV} {p : Int} (h : b.strengths.length ≤ 90000) (h1 : p < 0 ∨ (b.strengths.length : Int) ≤ p) : k_stopper_of b p = .er ⟨"BadPlace", [("place", eI p)]⟩ := by
  unfold k_stopper_of kc_stopper_of
  rw [lenK h, mbk, checkE h1]
  rfl
theorem reachesK {b : BV} (g : Good b) : k_reaches b = .ok ((rng 0 b.strengths.length).map (reachV b)) := by
  unfold k_reaches kc_reaches
  have := g.big
  rw [lenK g.big, mbk, rngK (by decide) (by decide) (by omega) (by omega), mbk, mapC_ok (g := reachV b) (lineK (by rw [rng_len]; omega)) fun x hx => reachK g (mem_rng.mp hx).1 (mem_rng.mp hx).2, mbk]
  rfl
/-! ### steps around a ring, along a row -/
section
variable {α β γ δ ρ : Type}
theorem forM_map {f : α → β} {b : β → γ → M (Out γ γ ρ)} : ∀ {xs : List α} {s0 : γ}, (forM (fun x s => b (f x) s) xs s0 : M (Out γ δ ρ)) = forM b (xs.map f) s0
  | [], _ => rfl
  | x :: xs, s0 => by
    rw [List.map_cons]
    unfold forM
    have ih : ∀ s, (forM (fun x s => b (f x) s) xs s : M (Out γ δ ρ)) = forM b (xs.map f) s := fun s => forM_map
    cases b (f x) s0 with
    | ok o => cases o <;> simp [ih]
    | er e => rfl
    | no => rfl
/-- what stands behind only leaves -/
theorem forM_appB {f : α → γ → M (Out γ γ ρ)} {ys : List α} (h : ∀ y ∈ ys, ∀ s, f y s = .ok (.bk s)) : ∀ {xs : List α} {s0 : γ}, (forM f (xs ++ ys) s0 : M (Out γ δ ρ)) = forM f xs s0
  | [], s0 => by
    cases ys with
    | nil => rfl
    | cons y ys =>
      rw [List.nil_append]
      unfold forM
      rw [h y List.mem_cons_self]
  | x :: xs, s0 => by
    rw [List.cons_append]
    unfold forM
    have ih : ∀ s, (forM f (xs ++ ys) s : M (Out γ δ ρ)) = forM f xs s := fun s => forM_appB h
    cases f x s0 with
    | ok o => cases o <;> simp [ih]
    | er e => rfl
    | no => rfl
theorem map_at {n p : Int} (h0 : 0 ≤ p) (h1 : p < n) : (rng 1 n).map (fun x => if n ≤ p + x then p + x - n else p + x) = rng (p + 1) n ++ rng 0 p := by
  rw [rng_app (lo := 1) (mid := n - p) (hi := n) (by omega) (by omega), List.map_append]
  congr 1
  · rw [show rng (p + 1) n = rng (1 + p) (n - p + p) by congr 1 <;> omega, ← rng_map]
    apply List.map_congr_left
    intro x hx
    have := mem_rng.mp hx
    rw [if_neg (by omega)]
    omega
  · rw [show rng 0 p = rng (n - p + (p - n)) (n + (p - n)) by congr 1 <;> omega, ← rng_map]
    apply List.map_congr_left
    intro x hx
    have := mem_rng.mp hx
    rw [if_pos (by omega)]
    omega
theorem stepsK {ring : Bool} {n p : Int} (b : Int → γ → M (Out γ γ ρ)) (s0 : γ) (h0 : 0 ≤ p) (h1 : p < n) :
    (forM (fun (x : Int) (s : γ) => sq (if (decide (n ≤ (p + x))) = true then if (!ring) = true then .ok (.bk s) else .ok (.nx ((p + x) - n)) else .ok (.nx (p + x))) fun (j : Int) => b j s) (rng 1 n) s0 : M (Out γ δ ρ)) = forM b (runsV ring n p) s0 := by
  unfold runsV
  cases ring with
  | true =>
    rw [if_pos rfl, ← map_at h0 h1, ← forM_map]
    apply forM_congr
    intro x hx s
    by_cases q : n ≤ p + x
    · rw [if_pos (decide_eq_true q), if_neg (by decide), sqk, if_pos q]
    · rw [if_neg (by simp [q]), sqk, if_neg q]
  | false =>
    rw [if_neg (by decide), List.append_nil, rng_app (lo := 1) (mid := n - p) (hi := n) (by omega) (by omega), forM_appB]
    · rw [show rng (p + 1) n = rng (1 + p) (n - p + p) by congr 1 <;> omega, ← rng_map, ← forM_map]
      apply forM_congr
      intro x hx s
      have := mem_rng.mp hx
      rw [if_neg (by simp; omega), sqk]
      congr 1
      omega
    · intro x hx s
      have := mem_rng.mp hx
      rw [if_pos (by simp; omega), if_pos (by decide)]
      rfl
theorem foldl_sum {g : Int → Int} : ∀ (xs : List Int) (a : Int), xs.foldl (fun s x => s + g x) a = a + (xs.map g).sum
  | [], a => by simp
  | x :: xs, a => by
    rw [List.foldl_cons, foldl_sum xs, List.map_cons, List.sum_cons]
    omega
/-- taken up to the first that c tells, which is returned as well -/
theorem walkLoop {ss : List Int} {p : Int} (hp : 0 ≤ p ∧ p < ss.length) : ∀ (xs acc : List Int), (∀ x ∈ xs, 0 ≤ x ∧ x < ss.length) → acc.length + xs.length ≤ 900000 →
    (forM (fun (j : Int) (s : List Int) => mb (mb (ixM ss j) fun v1 => mb (ixM ss p) fun v2 => (.ok (decide (v2 ≤ v1)))) fun v3 => if v3 = true then .ok (.rt (s, some j)) else mb (app s j) fun t => .ok (.nx t)) xs acc : M (Out (List Int) δ (List Int × Option Int))) =
      match xs.find? fun x => decide (sAt ss p ≤ sAt ss x) with
      | some x => .ok (.rt (acc ++ xs.takeWhile (fun x => !decide (sAt ss p ≤ sAt ss x)), some x))
      | none => .ok (.nx (acc ++ xs.takeWhile fun x => !decide (sAt ss p ≤ sAt ss x)))
  | [], acc, _, _ => by simp
  | y :: ys, acc, hy, hlen => by
    unfold forM
    have h1 := hy y List.mem_cons_self
    rw [List.length_cons] at hlen
    rw [ixS h1.1 h1.2, ixS hp.1 hp.2]
    simp only [mbk]
    by_cases c : sAt ss p ≤ sAt ss y
    · rw [if_pos (decide_eq_true c)]
      simp [c]
    · rw [if_neg (by simp [c]), appK (by omega)]
      simp only [mbk]
      have ih := walkLoop hp ys (acc ++ [y]) (fun x hx => hy x (List.mem_cons_of_mem _ hx)) (by rw [List.length_append, List.length_singleton]; omega)
      simp only [ixS hp.1 hp.2, mbk] at ih
      rw [ih]
      simp [c]
end
end DL

namespace DL
open PySem L2
/-! ## wakings -/
def kc__law_reach (round_flag : Bool) (sizes : (List Int)) (strengths : (List Int)) (place : Int) : M (Out Unit Empty Int) := mb (ixM sizes place) fun total1 =>
    mb (rngM 1 (sizes.length : Int)) fun v2 => sq (forM (fun (step3 : Int) (s4 : Int) =>
    sq (if (decide ((sizes.length : Int) ≤ (place + step3))) = true then if (!round_flag) = true then .ok (.bk s4)
    else .ok (.nx ((place + step3) - (sizes.length : Int))) else .ok (.nx (place + step3))) fun (j5 : Int) =>
    mb (mb (ixM strengths j5) fun v6 => mb (ixM strengths place) fun v7 => (.ok (decide (v7 ≤ v6)))) fun v8 => if v8 = true then .ok (.bk s4)
    else mb (mb (ixM sizes j5) fun v9 => (.ok (s4 + v9))) fun total10 =>
    .ok (.nx total10)) v2 total1) fun s11 =>
    .ok (.rt s11)
def k__law_reach (round_flag : Bool) (sizes : (List Int)) (strengths : (List Int)) (place : Int) : M Int := fnV .no (kc__law_reach round_flag sizes strengths place)
def kc__law_woken (round_flag : Bool) (sizes : (List Int)) (strengths : (List Int)) (places : (List Int)) : M (Out Unit Empty (List Int)) := sq (forM (fun (place1 : Int) (s2 : List Int) =>
    mb (k__law_reach round_flag sizes strengths place1) fun v3 => mb (setM s2 place1 v3) fun after4 =>
    .ok (.nx after4)) places strengths) fun s5 =>
    .ok (.rt s5)
def k__law_woken (round_flag : Bool) (sizes : (List Int)) (strengths : (List Int)) (places : (List Int)) : M (List Int) := fnV .no (kc__law_woken round_flag sizes strengths places)
def kc__law_settled (round_flag : Bool) (sizes : (List Int)) (strengths : (List Int)) : M (Out Unit Empty (List Int)) := mb (rngM 0 80) fun v1 => sq (forM (fun (step2 : Int) (s3 : (List Int)) =>
    mb (mb (rngL 0 (s3.length : Int)) fun v4 => k__law_woken round_flag sizes s3 v4) fun after5 =>
    if (decide (after5 = s3)) = true then .ok (.bk s3)
    else .ok (.nx after5)) v1 strengths) fun s6 =>
    .ok (.rt s6)
def k__law_settled (round_flag : Bool) (sizes : (List Int)) (strengths : (List Int)) : M (List Int) := fnV .no (kc__law_settled round_flag sizes strengths)
def kc__law_handed (places : (List Int)) (as_tuple : Bool) : M (Out Unit Empty (Bool × List Int)) := if as_tuple = true then .ok (.rt (true, places))
    else .ok (.rt (false, places))
def k__law_handed (places : (List Int)) (as_tuple : Bool) : M (Bool × List Int) := fnV .no (kc__law_handed places as_tuple)
def kc_distinct (handful : (Bool × List Int)) (size : Int) : M (Out Unit Empty (List Int)) := sq (forM (fun (place1 : Int) (s2 : Unit) =>
    mb (k_check_place place1 size) fun v3 => .ok (.nx ())) handful.2 ()) fun s4 =>
    mb (sortSet handful.2) fun v5 => .ok (.rt v5)
def k_distinct (handful : (Bool × List Int)) (size : Int) : M (List Int) := fnV .no (kc_distinct handful size)
def kc_changes_of (beads : BV) (handful : (Bool × List Int)) : M (Out Unit Empty (List (Int × Int × Int))) := mb (mb (mb (k_Beads___len__ beads) lenO) fun v1 => k_distinct handful v1) fun v2 => sq (forM (fun (place3 : Int) (s4 : List (Int × Int × Int)) =>
    mb (ixM beads.strengths place3) fun before5 =>
    mb (k_reach_of beads place3) fun after6 =>
    if (!decide (after6 = before5)) = true then mb (app s4 (place3, before5, after6)) fun changes7 =>
    .ok (.nx changes7)
    else .ok (.nx s4)) v2 ([] : List (Int × Int × Int))) fun s8 =>
    .ok (.rt s8)
def k_changes_of (beads : BV) (handful : (Bool × List Int)) : M (List (Int × Int × Int)) := fnV .no (kc_changes_of beads handful)
def kc_replaced (beads : BV) (changes : (List (Int × Int × Int))) : M (Out Unit Empty BV) := sq (forM (fun (x1 : (Int × Int × Int)) (s2 : List Int) =>
    mb (setM s2 x1.1 x1.2.2) fun strengths3 =>
    .ok (.nx strengths3)) changes beads.strengths) fun s4 =>
    mb (k_Beads___init__ s4 beads.lengths beads.ring) fun v5 => .ok (.rt v5)
def k_replaced (beads : BV) (changes : (List (Int × Int × Int))) : M BV := fnV .no (kc_replaced beads changes)
def kc_wake (beads : BV) (handful : (Bool × List Int)) : M (Out Unit Empty BV) := mb (mb (k_changes_of beads handful) fun v1 => k_replaced beads v1) fun v2 => .ok (.rt v2)
def k_wake (beads : BV) (handful : (Bool × List Int)) : M BV := fnV .no (kc_wake beads handful)
def kc__law_numbersQ (actual : (Bool × List Int)) (due : (List Int)) (as_tuple : Bool) : M (Out Unit Empty Bool) := if ((as_tuple && (!actual.1)) || ((!as_tuple) && (!(!actual.1)))) = true then .ok (.rt false)
    else if (!decide ((actual.2.length : Int) = (due.length : Int))) = true then .ok (.rt false)
    else mb (rngM 0 (due.length : Int)) fun v1 => sq (forM (fun (k2 : Int) (s3 : Unit) =>
    mb (mb (mb (mb (ixM actual.2 k2) fun v4 => k__law_is_integer v4) fun v5 => (.ok (!v5))) fun v6 => if v6 = true then .ok true else mb (ixM actual.2 k2) fun v7 => mb (ixM due k2) fun v8 => (.ok (!decide (v7 = v8)))) fun v9 => if v9 = true then .ok (.rt false)
    else .ok (.nx ())) v1 ()) fun s10 =>
    .ok (.rt true)
def k__law_numbersQ (actual : (Bool × List Int)) (due : (List Int)) (as_tuple : Bool) : M Bool := fnV .no (kc__law_numbersQ actual due as_tuple)
def kc__law_is_changes (actual : (List (Int × Int × Int))) (due : (List (Int × Int × Int))) : M (Out Unit Empty Bool) := if ((!true) || (!decide ((actual.length : Int) = (due.length : Int)))) = true then .ok (.rt false)
    else mb (rngM 0 (due.length : Int)) fun v1 => sq (forM (fun (k2 : Int) (s3 : Unit) =>
    mb (mb (mb (mb (ixM actual k2) fun v4 => (.ok [v4.1, v4.2.1, v4.2.2])) fun v5 => mb (mb (ixM due k2) fun v6 => (.ok [v6.1, v6.2.1, v6.2.2])) fun v7 => k__law_numbers_v1 v5 v7 true) fun v8 => (.ok (!v8))) fun v9 => if v9 = true then .ok (.rt false)
    else .ok (.nx ())) v1 ()) fun s10 =>
    .ok (.rt true)
def k__law_is_changes (actual : (List (Int × Int × Int))) (due : (List (Int × Int × Int))) : M Bool := fnV .no (kc__law_is_changes actual due)
def kc_wake_all (beads : BV) : M (Out Unit Empty BV) := mb (mb (k_reaches beads) fun v1 => k_Beads___init__ v1 beads.lengths beads.ring) fun v2 => .ok (.rt v2)
def k_wake_all (beads : BV) : M BV := fnV .no (kc_wake_all beads)
def kc__law_restless (round_flag : Bool) (sizes : (List Int)) (strengths : (List Int)) : M (Out Unit Empty (List Int)) := mb (mb (rngM 0 (sizes.length : Int)) fun v1 => lcM (fun k2 => mb (k__law_reach round_flag sizes strengths k2) fun v3 => mb (ixM strengths k2) fun v4 => (.ok (!decide (v3 = v4)))) (fun k2 => (.ok k2)) v1) fun v5 => .ok (.rt v5)
def k__law_restless (round_flag : Bool) (sizes : (List Int)) (strengths : (List Int)) : M (List Int) := fnV .no (kc__law_restless round_flag sizes strengths)
def kc_restless (beads : BV) : M (Out Unit Empty (List Int)) := mb (k_reaches beads) fun after1 =>
    mb (mb (mb (mb (k_Beads___len__ beads) lenO) fun v2 => rngM 0 v2) fun v3 => lcM (fun place4 => mb (ixM after1 place4) fun v5 => mb (ixM beads.strengths place4) fun v6 => (.ok (!decide (v5 = v6)))) (fun place4 => (.ok place4)) v3) fun v7 => .ok (.rt v7)
def k_restless (beads : BV) : M (List Int) := fnV .no (kc_restless beads)
def kc_hungry (beads : BV) : M (Out Unit Empty (List Int)) := mb (k_reaches beads) fun after1 =>
    mb (mb (mb (mb (k_Beads___len__ beads) lenO) fun v2 => rngM 0 v2) fun v3 => lcM (fun place4 => mb (ixM after1 place4) fun v5 => mb (ixM beads.strengths place4) fun v6 => (.ok (decide (v6 < v5)))) (fun place4 => (.ok place4)) v3) fun v7 => .ok (.rt v7)
def k_hungry (beads : BV) : M (List Int) := fnV .no (kc_hungry beads)
def kc_at_rest (beads : BV) : M (Out Unit Empty Bool) := mb (mb (mb (k_restless beads) fun v1 => (.ok (v1.length : Int))) fun v2 => (.ok (decide (v2 = 0)))) fun v3 => .ok (.rt v3)
def k_at_rest (beads : BV) : M Bool := fnV .no (kc_at_rest beads)

theorem lawReachK {r : Bool} {zs ss : List Int} {p : Int} (hl : zs.length = ss.length) (hb : ss.length ≤ 90000) (h1 : 0 ≤ p) (h2 : p < ss.length) : k__law_reach r zs ss p = .ok (reachV ⟨ss, zs, r⟩ p) := by
  unfold k__law_reach kc__law_reach
  rw [ixS h1 (by omega), mbk, rngK (by decide) (by decide) (by omega) (by omega), mbk, show (zs.length : Int) = (ss.length : Int) by omega]
  rw [stepsK (fun (j : Int) (s : Int) => mb (mb (ixM ss j) fun v224 => mb (ixM ss p) fun v225 => (.ok (decide (v225 ≤ v224)))) fun v228 => if v228 = true then .ok (.bk s) else mb (mb (ixM zs j) fun v226 => (.ok (s + v226))) fun total227 => .ok (.nx total227)) _ h1 h2]
  rw [forM_brk (fun x => decide (sAt ss p ≤ sAt ss x)) (fun x s => s + sAt zs x)]
  · rw [sqk, foldl_sum]
    rfl
  · intro x hx s
    have := runs_mem h1 h2 hx
    rw [ixS this.1 this.2, ixS h1 h2, ixS this.1 (by omega)]
    simp only [mbk]
theorem sum_nn : ∀ {xs : List Int}, (∀ x ∈ xs, 0 ≤ x) → 0 ≤ xs.sum
  | [], _ => Int.le_refl 0
  | x :: xs, h => by
    rw [List.sum_cons]
    have := h x List.mem_cons_self
    have := sum_nn (xs := xs) fun y hy => h y (List.mem_cons_of_mem _ hy)
    omega
theorem reach_pos {b : BV} {p : Int} (g : Good b) (h1 : 0 ≤ p) (h2 : p < b.strengths.length) : 1 ≤ reachV b p := by
  have hz := g.len
  have a := g.l1 _ (sAt_mem (xs := b.lengths) h1 (by omega))
  have : 0 ≤ ((trainV b.ring b.strengths p).map (sAt b.lengths)).sum := sum_nn fun x hx => by
    obtain ⟨q, hq, rfl⟩ := List.mem_map.mp hx
    have t := train_mem h1 h2 hq
    have := g.l1 _ (sAt_mem (xs := b.lengths) t.1 (by omega))
    omega
  unfold reachV
  omega
/-! ### the strengths after the places qs have woken -/
def wkV (b : BV) (qs : List Int) : List Int := (rng 0 b.strengths.length).map fun k => if k ∈ qs then reachV b k else sAt b.strengths k
theorem wkV_len (b : BV) (qs : List Int) : (wkV b qs).length = b.strengths.length := by unfold wkV; rw [List.length_map, rng_len]; omega
theorem wkV_at {b : BV} {qs : List Int} {k : Int} (h1 : 0 ≤ k) (h2 : k < b.strengths.length) : sAt (wkV b qs) k = if k ∈ qs then reachV b k else sAt b.strengths k := by
  unfold sAt wkV
  rw [List.getD_eq_getElem?_getD, List.getElem?_map, rng_get (by omega)]
  simp only [Option.map_some, Option.getD_some]
  rw [show (0 : Int) + (k.toNat : Int) = k by omega]
  rfl
theorem sAt_ext {xs ys : List Int} (hl : xs.length = ys.length) (h : ∀ k : Int, 0 ≤ k → k < xs.length → sAt xs k = sAt ys k) : xs = ys := by
  apply List.ext_getElem hl
  intro i h1 h2
  have := h (i : Int) (by omega) (by omega)
  unfold sAt at this
  rw [List.getD_eq_getElem?_getD, List.getD_eq_getElem?_getD, Int.toNat_natCast, List.getElem?_eq_getElem h1, List.getElem?_eq_getElem h2] at this
  exact this
theorem wkV_nil (b : BV) : wkV b [] = b.strengths := sAt_ext (wkV_len b []) fun k h1 h2 => by
  rw [wkV_len] at h2
  rw [wkV_at h1 h2, if_neg (by simp)]
theorem wkV_congr {b : BV} {ps qs : List Int} (h : ∀ k : Int, 0 ≤ k → k < b.strengths.length → (k ∈ ps ↔ k ∈ qs)) : wkV b ps = wkV b qs := by
  refine sAt_ext (by rw [wkV_len, wkV_len]) fun k h1 h2 => ?_
  rw [wkV_len] at h2
  rw [wkV_at h1 h2, wkV_at h1 h2]
  by_cases q : k ∈ ps
  · rw [if_pos q, if_pos ((h k h1 h2).mp q)]
  · rw [if_neg q, if_neg fun z => q ((h k h1 h2).mpr z)]
theorem setK {xs : List Int} {i x : Int} (h1 : 0 ≤ i) (h2 : i < xs.length) : setM xs i x = .ok (xs.set i.toNat x) := by
  obtain ⟨n, rfl⟩ := Int.eq_ofNat_of_zero_le h1
  have e : ixN xs.length (n : Int) = some n := by
    unfold ixN
    rw [if_pos h1, if_pos h2]
    rfl
  unfold setM
  rw [e]
  rfl
theorem sAt_set {xs : List Int} {i k x : Int} (h1 : 0 ≤ i) (h2 : i < xs.length) (h3 : 0 ≤ k) : sAt (xs.set i.toNat x) k = if k = i then x else sAt xs k := by
  unfold sAt
  rw [List.getD_eq_getElem?_getD, List.getD_eq_getElem?_getD]
  by_cases q : k = i
  · subst q
    rw [if_pos rfl, List.getElem?_set_self (by omega)]
    rfl
  · rw [if_neg q, List.getElem?_set_ne (by omega)]
theorem wkV_set {b : BV} {qs : List Int} {p : Int} (h1 : 0 ≤ p) (h2 : p < b.strengths.length) : (wkV b qs).set p.toNat (reachV b p) = wkV b (p :: qs) := by
  refine sAt_ext (by rw [List.length_set, wkV_len, wkV_len]) fun k h3 h4 => ?_
  rw [List.length_set, wkV_len] at h4
  rw [sAt_set h1 (by rw [wkV_len]; exact h2) h3, wkV_at h3 h4, wkV_at h3 h4]
  by_cases q : k = p
  · subst q
    rw [if_pos rfl, if_pos List.mem_cons_self]
  · rw [if_neg q]
    simp [q]
theorem wkV_same {b : BV} {qs : List Int} {p : Int} (h1 : 0 ≤ p) (h2 : p < b.strengths.length) (h : reachV b p = sAt b.strengths p) : wkV b (p :: qs) = wkV b qs := by
  refine sAt_ext (by rw [wkV_len, wkV_len]) fun k h3 h4 => ?_
  rw [wkV_len] at h4
  rw [wkV_at h3 h4, wkV_at h3 h4]
  by_cases q : k = p
  · subst q
    rw [if_pos List.mem_cons_self, h]
    simp
  · simp [q]
theorem wkV_nn {b : BV} {qs : List Int} (g : Good b) : ∀ s ∈ wkV b qs, 0 ≤ s := fun s hs => by
  unfold wkV at hs
  obtain ⟨k, hk, rfl⟩ := List.mem_map.mp hs
  have := mem_rng.mp hk
  split
  · have := reach_pos g this.1 this.2
    omega
  · exact g.s0 _ (sAt_mem this.1 this.2)
theorem good_wk {b : BV} {qs : List Int} (g : Good b) : Good ⟨wkV b qs, b.lengths, b.ring⟩ :=
  ⟨by show 0 < (wkV b qs).length; rw [wkV_len]; exact g.ne, by show b.lengths.length = (wkV b qs).length; rw [wkV_len]; exact g.len, by show (wkV b qs).length ≤ 90000; rw [wkV_len]; exact g.big, wkV_nn g, g.l1⟩
/-- the loop of wakings -/
theorem wkLoop {δ ρ : Type} {r : Bool} {zs ss : List Int} (g : Good ⟨ss, zs, r⟩) : ∀ (ps qs : List Int), (∀ p ∈ ps, 0 ≤ p ∧ p < ss.length) →
    (forM (fun (p : Int) (s : List Int) => mb (k__law_reach r zs ss p) fun v => mb (setM s p v) fun a => .ok (.nx a)) ps (wkV ⟨ss, zs, r⟩ qs) : M (Out (List Int) δ ρ)) = .ok (.nx (wkV ⟨ss, zs, r⟩ (ps.reverse ++ qs)))
  | [], qs, _ => rfl
  | p :: ps, qs, h => by
    unfold forM
    have hp := h p List.mem_cons_self
    have hz : zs.length = ss.length := g.len
    have hb : ss.length ≤ 90000 := g.big
    rw [lawReachK hz hb hp.1 hp.2, mbk, setK hp.1 (by rw [wkV_len]; exact hp.2), mbk]
    simp only
    rw [wkV_set (b := ⟨ss, zs, r⟩) hp.1 hp.2, wkLoop g ps (p :: qs) fun x hx => h x (List.mem_cons_of_mem _ hx)]
    rw [List.reverse_cons, List.append_assoc]
    rfl
theorem wokenK {r : Bool} {zs ss ps : List Int} (g : Good ⟨ss, zs, r⟩) (h : ∀ p ∈ ps, 0 ≤ p ∧ p < ss.length) : k__law_woken r zs ss ps = .ok (wkV ⟨ss, zs, r⟩ ps) := by
  unfold k__law_woken kc__law_woken
  have := wkLoop (δ := Empty) (ρ := List Int) g ps [] h
  rw [wkV_nil] at this
  rw [this, sqk, wkV_congr (qs := ps) fun k _ _ => by simp]
  rfl
/-! ### the first that is refused -/
theorem forM_er {α γ δ ρ : Type} {f : α → γ → M (Out γ γ ρ)} (c : α → Bool) (e : α → Ex) : ∀ {xs : List α} {s0 : γ}, (∀ x ∈ xs, f x s0 = if c x then .er (e x) else .ok (.nx s0)) →
    (forM f xs s0 : M (Out γ δ ρ)) = match xs.find? c with
      | some x => .er (e x)
      | none => .ok (.nx s0)
  | [], _, _ => rfl
  | x :: xs, s0, h => by
    unfold forM
    rw [h x List.mem_cons_self]
    cases hc : c x with
    | true => simp [hc]
    | false =>
      simp only [Bool.false_eq_true, if_false, List.find?, hc]
      exact forM_er c e fun y hy => h y (List.mem_cons_of_mem _ hy)
def badP (n : Int) (x : Int) : Bool := decide (x < 0) || decide (n ≤ x)
theorem checkL {δ ρ : Type} {n : Int} {ps : List Int} : (forM (fun (p : Int) (s : Unit) => mb (k_check_place p n) fun v => .ok (.nx ())) ps () : M (Out Unit δ ρ)) = match ps.find? (badP n) with
    | some x => .er ⟨"BadPlace", [("place", eI x)]⟩
    | none => .ok (.nx ()) := by
  have := forM_er (γ := Unit) (δ := δ) (ρ := ρ) (f := fun (p : Int) (s : Unit) => mb (k_check_place p n) fun v => .ok (.nx ())) (badP n) (fun x => ⟨"BadPlace", [("place", eI x)]⟩) (xs := ps) (s0 := ()) (fun x hx => ?_)
  · refine this.trans ?_
    cases ps.find? (badP n) <;> rfl
  unfold badP
  by_cases q : x < 0 ∨ n ≤ x
  · rw [checkE q, if_pos (by simp; exact q)]
    rfl
  · have q1 : 0 ≤ x := by omega
    have q2 : x < n := by omega
    rw [checkK q1 q2, if_neg (by simp; omega)]
    rfl
theorem good_ps {n : Int} {ps : List Int} (h : ∀ p ∈ ps, 0 ≤ p ∧ p < n) : ps.find? (badP n) = none := by
  rw [List.find?_eq_none]
  intro x hx
  have := h x hx
  unfold badP
  simp
  omega
theorem distinctK {t : Bool} {ps : List Int} {n : Int} (h : ∀ p ∈ ps, 0 ≤ p ∧ p < n) (hl : ps.length < 64) : k_distinct (t, ps) n = .ok (usort ps) := by
  unfold k_distinct kc_distinct
  rw [checkL, good_ps h]
  simp only [sqk]
  unfold sortSet
  rw [if_pos hl]
  rfl
theorem distinctE {t : Bool} {ps : List Int} {n x : Int} (h : ps.find? (badP n) = some x) : k_distinct (t, ps) n = .er ⟨"BadPlace", [("place", eI x)]⟩ := by
  unfold k_distinct kc_distinct
  rw [checkL, h]
  rfl
/-! ### sorted places -/
theorem rng_sorted (n : Int) : (rng 0 n).Pairwise (· < ·) := by
  unfold rng
  rw [List.pairwise_map]
  refine List.Pairwise.imp ?_ List.pairwise_lt_range
  intro a b h
  omega
theorem usort_rng {n : Int} {ps : List Int} (h : ∀ p ∈ ps, 0 ≤ p ∧ p < n) : usort ps = (rng 0 n).filter fun k => decide (k ∈ ps) := by
  refine (usort_eq ((rng_sorted n).filter _) fun k => ?_).symm
  rw [List.mem_filter, decide_eq_true_eq, mem_rng]
  exact ⟨fun z => z.2, fun z => ⟨h k z, z⟩⟩
theorem mem_usort {k : Int} {ps : List Int} : k ∈ usort ps ↔ k ∈ ps := by
  unfold usort
  unfold sortI
  rw [List.mem_mergeSort, mem_nub]
/-! ### changes -/
def chV (b : BV) (qs : List Int) : List (Int × Int × Int) := (qs.filter fun k => !decide (reachV b k = sAt b.strengths k)).map fun k => (k, sAt b.strengths k, reachV b k)
theorem chLoop {δ ρ : Type} {b : BV} (g : Good b) : ∀ (qs : List Int) (acc : List (Int × Int × Int)), (∀ p ∈ qs, 0 ≤ p ∧ p < b.strengths.length) → acc.length + qs.length ≤ 900000 →
    (forM (fun (p : Int) (s : List (Int × Int × Int)) => mb (ixM b.strengths p) fun before5 => mb (k_reach_of b p) fun after6 => if (!decide (after6 = before5)) = true then mb (app s (p, before5, after6)) fun c => .ok (.nx c) else .ok (.nx s)) qs acc : M (Out (List (Int × Int × Int)) δ ρ)) = .ok (.nx (acc ++ chV b qs))
  | [], acc, _, _ => by simp [forM, chV]
  | p :: qs, acc, h, hl => by
    unfold forM
    have hp := h p List.mem_cons_self
    rw [List.length_cons] at hl
    rw [ixS hp.1 hp.2, mbk, reachK g hp.1 hp.2, mbk]
    have ih := fun acc h2 => chLoop (δ := δ) (ρ := ρ) g qs acc (fun x hx => h x (List.mem_cons_of_mem _ hx)) h2
    by_cases q : reachV b p = sAt b.strengths p
    · rw [if_neg (by simp [q])]
      simp only
      rw [ih acc (by omega)]
      unfold chV
      rw [List.filter_cons_of_neg (by simp [q])]
    · rw [if_pos (by simp [q]), appK (by omega), mbk]
      simp only
      rw [ih _ (by rw [List.length_append, List.length_singleton]; omega)]
      unfold chV
      rw [List.filter_cons_of_pos (by simp [q])]
      simp
theorem usort_len {n : Int} {ps : List Int} (h : ∀ p ∈ ps, 0 ≤ p ∧ p < n) : (usort ps).length ≤ n.toNat := by
  rw [usort_rng h]
  refine Nat.le_trans (List.length_filter_le _ _) ?_
  rw [rng_len]
  omega
theorem changesK {t : Bool} {b : BV} {ps : List Int} (g : Good b) (h : ∀ p ∈ ps, 0 ≤ p ∧ p < b.strengths.length) (hl : ps.length < 64) : k_changes_of b (t, ps) = .ok (chV b (usort ps)) := by
  unfold k_changes_of kc_changes_of
  have := g.big
  have := usort_len h
  rw [lenK g.big, mbk, distinctK h hl, mbk, chLoop g _ [] (fun p hp => h p (mem_usort.mp hp)) (by simp; omega), sqk]
  rfl
theorem changesE {t : Bool} {b : BV} {ps : List Int} {x : Int} (g : Good b) (h : ps.find? (badP b.strengths.length) = some x) : k_changes_of b (t, ps) = .er ⟨"BadPlace", [("place", eI x)]⟩ := by
  unfold k_changes_of kc_changes_of
  rw [lenK g.big, mbk, distinctE h]
  rfl
theorem repLoop {δ ρ : Type} {b : BV} : ∀ (qs acc : List Int), (∀ p ∈ qs, 0 ≤ p ∧ p < b.strengths.length) →
    (forM (fun (x : Int × Int × Int) (s : List Int) => mb (setM s x.1 x.2.2) fun a => .ok (.nx a)) (chV b qs) (wkV b acc) : M (Out (List Int) δ ρ)) = .ok (.nx (wkV b (qs.reverse ++ acc)))
  | [], acc, _ => rfl
  | p :: qs, acc, h => by
    have hp := h p List.mem_cons_self
    have ih := fun acc => repLoop (δ := δ) (ρ := ρ) (b := b) qs acc fun x hx => h x (List.mem_cons_of_mem _ hx)
    by_cases q : reachV b p = sAt b.strengths p
    · have e : chV b (p :: qs) = chV b qs := by unfold chV; rw [List.filter_cons_of_neg (by simp [q])]
      rw [e, ← wkV_same (qs := acc) hp.1 hp.2 q, ih, List.reverse_cons, List.append_assoc]
      rfl
    · have e : chV b (p :: qs) = (p, sAt b.strengths p, reachV b p) :: chV b qs := by unfold chV; rw [List.filter_cons_of_pos (by simp [q])]; rfl
      rw [e]
      unfold forM
      rw [setK hp.1 (by rw [wkV_len]; exact hp.2), mbk]
      simp only
      rw [wkV_set hp.1 hp.2, ih, List.reverse_cons, List.append_assoc]
      rfl
theorem replacedK {b : BV} {qs : List Int} (g : Good b) (h : ∀ p ∈ qs, 0 ≤ p ∧ p < b.strengths.length) : k_replaced b (chV b qs) = .ok ⟨wkV b qs, b.lengths, b.ring⟩ := by
  unfold k_replaced kc_replaced
  have := repLoop (δ := Empty) (ρ := BV) (b := b) qs [] h
  rw [wkV_nil] at this
  rw [this, sqk, wkV_congr (qs := qs) fun k _ _ => by simp, initK (good_wk g)]
  rfl
theorem wakeK {t : Bool} {b : BV} {ps : List Int} (g : Good b) (h : ∀ p ∈ ps, 0 ≤ p ∧ p < b.strengths.length) (hl : ps.length < 64) : k_wake b (t, ps) = .ok ⟨wkV b ps, b.lengths, b.ring⟩ := by
  unfold k_wake kc_wake
  rw [changesK g h hl, mbk, replacedK g fun p hp => h p (mem_usort.mp hp), mbk, wkV_congr (qs := ps) fun k _ _ => mem_usort]
  rfl
theorem wakeE {t : Bool} {b : BV} {ps : List Int} {x : Int} (g : Good b) (h : ps.find? (badP b.strengths.length) = some x) : k_wake b (t, ps) = .er ⟨"BadPlace", [("place", eI x)]⟩ := by
  unfold k_wake kc_wake
  rw [changesE g h]
  rfl
theorem reaches_wk {b : BV} : (rng 0 b.strengths.length).map (reachV b) = wkV b (rng 0 b.strengths.length) := by
  unfold wkV
  refine List.map_congr_left fun k hk => ?_
  rw [if_pos hk]
theorem wakeAllK {b : BV} (g : Good b) : k_wake_all b = .ok ⟨wkV b (rng 0 b.strengths.length), b.lengths, b.ring⟩ := by
  unfold k_wake_all kc_wake_all
  rw [reachesK g, mbk, reaches_wk, initK (good_wk g)]
  rfl
/-! ### restless, hungry -/
theorem lcK {α β : Type} {c : α → M Bool} {f : α → M β} (q : α → Bool) (g : α → β) {xs : List α} (hl : xs.length ≤ 1000000) (hc : ∀ x ∈ xs, c x = .ok (q x)) (hf : ∀ x ∈ xs, f x = .ok (g x)) : lcM c f xs = .ok ((xs.filter q).map g) := lcM_ok (lineK hl) hc fun x hx _ => hf x hx
def restV (b : BV) : List Int := (rng 0 b.strengths.length).filter fun k => !decide (reachV b k = sAt b.strengths k)
theorem lawRestK {r : Bool} {zs ss : List Int} (g : Good ⟨ss, zs, r⟩) : k__law_restless r zs ss = .ok (restV ⟨ss, zs, r⟩) := by
  unfold k__law_restless kc__law_restless
  have hz : zs.length = ss.length := g.len
  have hb : ss.length ≤ 90000 := g.big
  rw [rngK (by decide) (by decide) (by omega) (by omega), mbk, lcK (fun k => !decide (reachV ⟨ss, zs, r⟩ k = sAt ss k)) (fun k => k) (by rw [rng_len]; omega), List.map_id']
  · show M.ok (List.filter _ (rng 0 (zs.length : Int))) = _
    unfold restV
    rw [hz]
  · intro k hk
    have := mem_rng.mp hk
    rw [lawReachK hz hb this.1 (by omega), ixS this.1 (by omega)]
    rfl
  · intro k _; rfl
theorem sAt_reaches {b : BV} {k : Int} (h1 : 0 ≤ k) (h2 : k < b.strengths.length) : sAt ((rng 0 b.strengths.length).map (reachV b)) k = reachV b k := by
  rw [reaches_wk, wkV_at h1 h2, if_pos (mem_rng.mpr ⟨h1, h2⟩)]
theorem restK {b : BV} (g : Good b) : k_restless b = .ok (restV b) := by
  unfold k_restless kc_restless
  have hb := g.big
  rw [reachesK g, mbk, lenK hb, mbk, rngK (by decide) (by decide) (by omega) (by omega), mbk, lcK (fun k => !decide (reachV b k = sAt b.strengths k)) (fun k => k) (by rw [rng_len]; omega), List.map_id']
  · rfl
  · intro k hk
    have := mem_rng.mp hk
    rw [ixS this.1 (by rw [List.length_map, rng_len]; omega), ixS this.1 this.2, sAt_reaches this.1 this.2]
    rfl
  · intro k _; rfl
def hungV (b : BV) : List Int := (rng 0 b.strengths.length).filter fun k => decide (sAt b.strengths k < reachV b k)
theorem hungK {b : BV} (g : Good b) : k_hungry b = .ok (hungV b) := by
  unfold k_hungry kc_hungry
  have hb := g.big
  rw [reachesK g, mbk, lenK hb, mbk, rngK (by decide) (by decide) (by omega) (by omega), mbk, lcK (fun k => decide (sAt b.strengths k < reachV b k)) (fun k => k) (by rw [rng_len]; omega), List.map_id']
  · rfl
  · intro k hk
    have := mem_rng.mp hk
    rw [ixS this.1 (by rw [List.length_map, rng_len]; omega), ixS this.1 this.2, sAt_reaches this.1 this.2]
    rfl
  · intro k _; rfl
theorem hung_rest {b : BV} : (restV b).filter (fun k => decide (sAt b.strengths k < reachV b k)) = hungV b := by
  unfold restV hungV
  rw [List.filter_filter]
  refine List.filter_congr fun k _ => ?_
  by_cases h : sAt b.strengths k < reachV b k
  · simp [h]; omega
  · simp [h]
theorem atRestK {b : BV} (g : Good b) : k_at_rest b = .ok (decide (restV b = [])) := by
  unfold k_at_rest kc_at_rest
  rw [restK g]
  simp only [mbk]
  show M.ok (decide (((restV b).length : Int) = 0)) = _
  congr 1
  cases restV b with
  | nil => rfl
  | cons x l => simp; omega
theorem rest_len {b : BV} : (restV b).length ≤ b.strengths.length := by
  unfold restV
  refine Nat.le_trans (List.length_filter_le _ _) ?_
  rw [rng_len]; omega
/-! ### a list or a tuple -/
theorem numbersQK {t : Bool} {xs ys : List Int} (hl : ys.length ≤ 90000) : k__law_numbersQ (t, xs) ys t = .ok (decide (xs = ys)) := by
  unfold k__law_numbersQ kc__law_numbersQ
  rw [if_neg (by cases t <;> simp)]
  by_cases h : xs.length = ys.length
  · rw [if_neg (by simp [h]), rngK (by decide) (by decide) (by omega) (by omega), mbk, numLoop h]
    by_cases e : xs = ys
    · rw [if_pos e, sqk]; simp [e]
    · rw [if_neg e]; simp [e]
  · have : xs ≠ ys := fun e => h (by rw [e])
    have h' : ¬ ((xs.length : Int) = (ys.length : Int)) := by omega
    rw [if_pos (by simp [h'])]
    simp [this]
theorem handedK {t : Bool} {ps : List Int} : k__law_handed ps t = .ok (t, ps) := by
  unfold k__law_handed kc__law_handed
  cases t <;> rfl
theorem isChK {xs : List (Int × Int × Int)} (hl : xs.length ≤ 90000) : k__law_is_changes xs xs = .ok true := by
  unfold k__law_is_changes kc__law_is_changes
  rw [if_neg (by simp), rngK (by decide) (by decide) (by omega) (by omega), mbk, forM_pass, sqk]
  · rfl
  · intro k hk
    have := mem_rng.mp hk
    obtain ⟨x, e1, e2⟩ := ixK (xs := xs) this.1 this.2
    rw [e2]
    simp only [mbk]
    rw [numbersTK true (by simp)]
    simp [mbk]
theorem cutN {α : Type} (xs : List α) (n : Nat) : cut xs (some (n : Int)) none = xs.drop n := by
  unfold cut
  rw [HT.sIx_nat xs.length 0 n, HT.sIx_none]
  by_cases h : n ≤ xs.length
  · rw [Nat.min_eq_left h, List.take_of_length_le (by rw [List.length_drop]; exact Nat.le_refl _)]
  · rw [Nat.min_eq_right (by omega), List.drop_of_length_le (by omega), List.drop_of_length_le (by omega), List.take_nil]
end DL

namespace DL
open PySem L2
/-! ## trains by steps, lords, leaders -/
def kc_lord_of (beads : BV) (place : Int) : M (Out Unit Empty (Option Int)) := mb (rngL 0 place) fun before1 =>
    sq (if beads.ring = true then mb (mb (mb (mb (k_Beads___len__ beads) lenO) fun v2 => rngL (place + 1) v2) fun v3 => catM v3 before1) fun before4 =>
    .ok (.nx before4) else .ok (.nx before1)) fun (j5 : List Int) =>
    sq (forM (fun (at6 : Int) (s7 : Unit) =>
    mb (mb (ixM beads.strengths at6) fun v8 => mb (ixM beads.strengths place) fun v9 => (.ok (decide (v9 < v8)))) fun v10 => if v10 = true then .ok (.rt (some at6))
    else .ok (.nx ())) j5.reverse ()) fun s11 =>
    .ok (.rt (none : Option Int))
def k_lord_of (beads : BV) (place : Int) : M (Option Int) := fnV (.ok none) (kc_lord_of beads place)
def kc_lords_of (beads : BV) : M (Out Unit Empty (List (Option Int))) := mb (mb (mb (mb (k_Beads___len__ beads) lenO) fun v1 => rngM 0 v1) fun v2 => mapC (fun place3 => k_lord_of beads place3) v2) fun v4 => .ok (.rt v4)
def k_lords_of (beads : BV) : M (List (Option Int)) := fnV .no (kc_lords_of beads)
def kc_leaders_of (beads : BV) : M (Out Unit Empty (List Int)) := mb (k_lords_of beads) fun lords1 =>
    mb (mb (mb (mb (k_Beads___len__ beads) lenO) fun v2 => rngM 0 v2) fun v3 => lcM (fun place4 => mb (ixM lords1 place4) fun v5 => (.ok v5.isNone)) (fun place4 => (.ok place4)) v3) fun v6 => .ok (.rt v6)
def k_leaders_of (beads : BV) : M (List Int) := fnV .no (kc_leaders_of beads)
def kc__law_train (round_flag : Bool) (strengths : (List Int)) (place : Int) : M (Out Unit Empty (List Int)) := mb (rngM 1 (strengths.length : Int)) fun v1 => sq (forM (fun (step2 : Int) (s3 : List Int) =>
    sq (if (decide ((strengths.length : Int) ≤ (place + step2))) = true then if (!round_flag) = true then .ok (.bk s3)
    else .ok (.nx ((place + step2) - (strengths.length : Int))) else .ok (.nx (place + step2))) fun (j4 : Int) =>
    mb (mb (ixM strengths j4) fun v5 => mb (ixM strengths place) fun v6 => (.ok (decide (v6 ≤ v5)))) fun v7 => if v7 = true then .ok (.bk s3)
    else mb (app s3 j4) fun train8 =>
    .ok (.nx train8)) v1 ([] : List Int)) fun s9 =>
    .ok (.rt s9)
def k__law_train (round_flag : Bool) (strengths : (List Int)) (place : Int) : M (List Int) := fnV .no (kc__law_train round_flag strengths place)
def kc__law_are_lords (told : (List (Option Int))) (due : (List (Option Int))) : M (Out Unit Empty Bool) := if ((!true) || (!decide ((told.length : Int) = (due.length : Int)))) = true then .ok (.rt false)
    else mb (rngM 0 (due.length : Int)) fun v1 => sq (forM (fun (place2 : Int) (s3 : Unit) =>
    mb (mb (ixM due place2) fun v4 => (.ok v4.isNone)) fun v5 => if v5 = true then mb (mb (ixM told place2) fun v6 => (.ok v6.isSome)) fun v7 => if v7 = true then .ok (.rt false)
    else .ok (.nx ())
    else mb (mb (mb (mb (ixM told place2) fun v8 => k__law_is_integer_v1 v8) fun v9 => (.ok (!v9))) fun v10 => if v10 = true then .ok true else mb (ixM told place2) fun v11 => mb (ixM due place2) fun v12 => (.ok (!decide (v11 = v12)))) fun v13 => if v13 = true then .ok (.rt false)
    else .ok (.nx ())) v1 ()) fun s14 =>
    .ok (.rt true)
def k__law_are_lords (told : (List (Option Int))) (due : (List (Option Int))) : M Bool := fnV .no (kc__law_are_lords told due)

theorem rng_cons {lo hi : Int} (h : lo < hi) : rng lo hi = lo :: rng (lo + 1) hi := by
  rw [rng_app (lo := lo) (mid := lo + 1) (hi := hi) (by omega) (by omega)]
  have e : rng lo (lo + 1) = [lo] := by
    unfold rng
    rw [show (lo + 1 - lo).toNat = 1 by omega]
    simp
  rw [e]
  rfl
theorem mem_tw {q : Int → Bool} : ∀ (n : Nat) {lo hi x : Int}, (hi - lo).toNat = n → (x ∈ (rng lo hi).takeWhile q ↔ lo ≤ x ∧ x < hi ∧ ∀ y, lo ≤ y → y ≤ x → q y = true) := by
  intro n
  induction n with
  | zero =>
    intro lo hi x h
    rw [rng_nil (by omega)]
    simp
    omega
  | succ n ih =>
    intro lo hi x h
    rw [rng_cons (by omega)]
    by_cases c : q lo = true
    · rw [List.takeWhile_cons_of_pos c, List.mem_cons, ih (lo := lo + 1) (by omega)]
      constructor
      · rintro (rfl | ⟨h1, h2, h3⟩)
        · exact ⟨Int.le_refl _, by omega, fun y h4 h5 => by
            have : y = x := by omega
            rw [this]; exact c⟩
        · refine ⟨by omega, h2, fun y h4 h5 => ?_⟩
          by_cases e : y = lo
          · rw [e]; exact c
          · exact h3 y (by omega) h5
      · rintro ⟨h1, h2, h3⟩
        by_cases e : x = lo
        · exact .inl e
        · exact .inr ⟨by omega, h2, fun y h4 h5 => h3 y (by omega) h5⟩
    · rw [List.takeWhile_cons_of_neg c]
      constructor
      · intro z; cases z
      · rintro ⟨h1, h2, h3⟩
        exact absurd (h3 lo (Int.le_refl _) h1) c
/-- d steps on -/
def onV (n p d : Int) : Int := if n ≤ p + d then p + d - n else p + d
def stepsV (ring : Bool) (n p : Int) : Int := if ring = true then n else n - p
theorem runs_steps {ring : Bool} {n p : Int} (h0 : 0 ≤ p) (h1 : p < n) : runsV ring n p = (rng 1 (stepsV ring n p)).map (onV n p) := by
  unfold runsV stepsV
  cases ring with
  | true =>
    rw [if_pos rfl, if_pos rfl]
    exact (map_at h0 h1).symm
  | false =>
    rw [if_neg (by decide), if_neg (by decide), List.append_nil, show rng (p + 1) n = rng (1 + p) (n - p + p) by congr 1 <;> omega, ← rng_map]
    refine List.map_congr_left fun x hx => ?_
    have := mem_rng.mp hx
    unfold onV
    rw [if_neg (by omega)]
    omega
theorem mem_train {ring : Bool} {ss : List Int} {p x : Int} (h0 : 0 ≤ p) (h1 : p < ss.length) : x ∈ trainV ring ss p ↔ ∃ d, 1 ≤ d ∧ d < stepsV ring ss.length p ∧ x = onV ss.length p d ∧ ∀ e, 1 ≤ e → e ≤ d → sAt ss (onV ss.length p e) < sAt ss p := by
  unfold trainV
  rw [runs_steps h0 h1, tw_map, List.mem_map]
  constructor
  · rintro ⟨d, hd, rfl⟩
    obtain ⟨h2, h3, h4⟩ := (mem_tw _ rfl).mp hd
    exact ⟨d, h2, h3, rfl, fun e h5 h6 => by
      have := h4 e h5 h6
      simp only [Bool.not_eq_true', decide_eq_false_iff_not] at this
      omega⟩
  · rintro ⟨d, h2, h3, rfl, h4⟩
    exact ⟨d, (mem_tw _ rfl).mpr ⟨h2, h3, fun y h5 h6 => by
      have := h4 y h5 h6
      simp only [Bool.not_eq_true', decide_eq_false_iff_not]
      omega⟩, rfl⟩
/-- the retinues nest -/
theorem nest_in {ring : Bool} {ss : List Int} {p q x : Int} (hp : 0 ≤ p ∧ p < ss.length) (hq : 0 ≤ q ∧ q < ss.length) (h : q ∈ trainV ring ss p) (hx : x ∈ trainV ring ss q ∨ x = q) : x ∈ trainV ring ss p := by
  rcases hx with hx | hx
  · obtain ⟨d, d1, d2, d3, d4⟩ := (mem_train hp.1 hp.2).mp h
    obtain ⟨e, e1, e2, e3, e4⟩ := (mem_train hq.1 hq.2).mp hx
    have lt := d4 d d1 (Int.le_refl _)
    rw [← d3] at lt
    unfold stepsV at d2 e2
    by_cases w : d + e < (ss.length : Int) ∧ (ring = true ∨ p + d + e < ss.length)
    · refine (mem_train hp.1 hp.2).mpr ⟨d + e, by omega, ?_, ?_, fun f f1 f2 => ?_⟩
      · unfold stepsV
        cases ring <;> simp at * <;> omega
      · rw [e3, d3]
        unfold onV
        split <;> split <;> (try split) <;> omega
      · by_cases c : f ≤ d
        · exact d4 f f1 c
        · have := e4 (f - d) (by omega) (by omega)
          have eq : onV ss.length q (f - d) = onV ss.length p f := by
            rw [d3]
            unfold onV
            split <;> split <;> (try split) <;> omega
          rw [eq] at this
          omega
    · exfalso
      cases ring with
      | true =>
        simp only [if_true, true_or, and_true] at d2 e2 w
        have := e4 (ss.length - d) (by omega) (by omega)
        have eq : onV ss.length q (ss.length - d) = p := by
          rw [d3]
          unfold onV
          split <;> split <;> omega
        rw [eq] at this
        omega
      | false =>
        simp only [Bool.false_eq_true, if_false, false_or] at d2 e2 w
        have : q = p + d := by
          rw [d3]
          unfold onV
          rw [if_neg (by omega)]
        omega
  · rw [hx]; exact h
theorem nest_apart {ring : Bool} {ss : List Int} {p q x : Int} (hp : 0 ≤ p ∧ p < ss.length) (hq : 0 ≤ q ∧ q < ss.length) (ne : p ≠ q) (h1 : q ∉ trainV ring ss p) (h2 : p ∉ trainV ring ss q) (hx : x ∈ trainV ring ss p ∨ x = p) (hy : x ∈ trainV ring ss q ∨ x = q) : False := by
  rcases hx with hx | rfl
  · rcases hy with hy | rfl
    · obtain ⟨a, a1, a2, a3, a4⟩ := (mem_train hp.1 hp.2).mp hx
      obtain ⟨b, b1, b2, b3, b4⟩ := (mem_train hq.1 hq.2).mp hy
      have key1 : ∀ d, 1 ≤ d → d ≤ a → q = onV ss.length p d → False := fun d d1 d2 d3 => h1 ((mem_train hp.1 hp.2).mpr ⟨d, d1, by omega, d3, fun e e1 e2 => a4 e e1 (by omega)⟩)
      have key2 : ∀ d, 1 ≤ d → d ≤ b → p = onV ss.length q d → False := fun d d1 d2 d3 => h2 ((mem_train hq.1 hq.2).mpr ⟨d, d1, by omega, d3, fun e e1 e2 => b4 e e1 (by omega)⟩)
      rw [a3] at b3
      unfold stepsV at a2 b2
      cases ring with
      | true =>
        simp only [if_true] at a2 b2
        unfold onV at b3
        by_cases c : b < a
        · refine key1 (a - b) (by omega) (by omega) ?_
          unfold onV
          split at b3 <;> split at b3 <;> split <;> omega
        · refine key2 (b - a) ?_ (by omega) ?_
          · split at b3 <;> split at b3 <;> omega
          · unfold onV
            split at b3 <;> split at b3 <;> split <;> omega
      | false =>
        simp only [Bool.false_eq_true, if_false] at a2 b2
        unfold onV at b3
        rw [if_neg (by omega), if_neg (by omega)] at b3
        by_cases c : b < a
        · refine key1 (a - b) (by omega) (by omega) ?_
          unfold onV
          rw [if_neg (by omega)]
          omega
        · refine key2 (b - a) (by omega) (by omega) ?_
          unfold onV
          rw [if_neg (by omega)]
          omega
    · exact h1 hx
  · rcases hy with hy | hy
    · exact h2 hy
    · exact ne hy

theorem lawTrainK {r : Bool} {ss : List Int} {p : Int} (hb : ss.length ≤ 90000) (h1 : 0 ≤ p) (h2 : p < ss.length) : k__law_train r ss p = .ok (trainV r ss p) := by
  unfold k__law_train kc__law_train
  have rl := runs_len (ring := r) h1 h2
  rw [rngK (by decide) (by decide) (by omega) (by omega), mbk]
  rw [stepsK (fun (j : Int) (s : List Int) => mb (mb (ixM ss j) fun v5 => mb (ixM ss p) fun v6 => (.ok (decide (v6 ≤ v5)))) fun v7 => if v7 = true then .ok (.bk s) else mb (app s j) fun t => .ok (.nx t)) _ h1 h2]
  rw [trainLoop ⟨h1, h2⟩ (fun x hx => runs_mem h1 h2 hx) (by omega), sqk]
  rfl
/-! ### steps back -/
def bkV (n p d : Int) : Int := if p - d < 0 then p - d + n else p - d
def backN (ring : Bool) (n p : Int) : Int := if ring = true then n else p + 1
def backV (ring : Bool) (n p : Int) : List Int := (rng 1 (backN ring n p)).map (bkV n p)
theorem rev_rng {lo hi : Int} : (rng lo hi).reverse = (rng 1 (hi - lo + 1)).map fun d => hi - d := by
  apply List.ext_getElem?
  intro i
  by_cases h : i < (hi - lo).toNat
  · rw [List.getElem?_reverse (by rw [rng_len]; exact h), rng_len, rng_get (by omega), List.getElem?_map, rng_get (by omega)]
    simp only [Option.map_some]
    congr 1
    omega
  · rw [List.getElem?_eq_none (by rw [List.length_reverse, rng_len]; omega), List.getElem?_eq_none (by rw [List.length_map, rng_len]; omega)]
theorem back_rev {ring : Bool} {n p : Int} (h0 : 0 ≤ p) (h1 : p < n) : (if ring = true then rng (p + 1) n ++ rng 0 p else rng 0 p).reverse = backV ring n p := by
  unfold backV backN
  cases ring with
  | true =>
    rw [if_pos rfl, if_pos rfl, List.reverse_append, rev_rng, rev_rng, rng_app (lo := 1) (mid := p + 1) (hi := n) (by omega) (by omega), List.map_append]
    congr 1
    · rw [show p - 0 + 1 = p + 1 by omega]
      refine List.map_congr_left fun x hx => ?_
      have := mem_rng.mp hx
      unfold bkV
      rw [if_neg (by omega)]
    · rw [show rng (p + 1) n = rng (1 + p) (n - p + p) by congr 1 <;> omega, ← rng_map, List.map_map, show n - (p + 1) + 1 = n - p by omega]
      refine List.map_congr_left fun x hx => ?_
      have := mem_rng.mp hx
      show _ = bkV n p (x + p)
      unfold bkV
      rw [if_pos (by omega)]
      omega
  | false =>
    rw [if_neg (by decide), if_neg (by decide), rev_rng, show p - 0 + 1 = p + 1 by omega]
    refine List.map_congr_left fun x hx => ?_
    have := mem_rng.mp hx
    unfold bkV
    rw [if_neg (by omega)]
theorem back_mem {ring : Bool} {n p x : Int} (h0 : 0 ≤ p) (h1 : p < n) (h : x ∈ backV ring n p) : 0 ≤ x ∧ x < n := by
  unfold backV at h
  obtain ⟨d, hd, rfl⟩ := List.mem_map.mp h
  have := mem_rng.mp hd
  unfold backN at this
  unfold bkV
  split at this <;> split <;> omega
def lordV (ring : Bool) (ss : List Int) (p : Int) : Option Int := (backV ring ss.length p).find? fun x => decide (sAt ss p < sAt ss x)
theorem lordK {b : BV} {p : Int} (h : b.strengths.length ≤ 90000) (h1 : 0 ≤ p) (h2 : p < b.strengths.length) : k_lord_of b p = .ok (lordV b.ring b.strengths p) := by
  unfold k_lord_of kc_lord_of
  rw [rngLK (by omega) (by omega) (by omega) (by omega), mbk, lenK h, mbk, rngLK (by omega) (by omega) (by omega) (by omega), mbk, catK (by rw [rng_len, rng_len]; omega), mbk]
  have e : (if b.ring = true then .ok (.nx (rng (p + 1) b.strengths.length ++ rng 0 p)) else .ok (.nx (rng 0 p)) : M (Out (List Int) Empty (Option Int))) = .ok (.nx (if b.ring = true then rng (p + 1) b.strengths.length ++ rng 0 p else rng 0 p)) := by
    split <;> rfl
  rw [e, sqk, back_rev h1 h2, forM_ret (fun x => decide (sAt b.strengths p < sAt b.strengths x)) some]
  · unfold lordV
    cases (backV b.ring b.strengths.length p).find? fun x => decide (sAt b.strengths p < sAt b.strengths x) with
    | none => rfl
    | some x => rfl
  · intro x hx
    have := back_mem h1 h2 hx
    rw [ixS this.1 this.2, ixS h1 h2]
    simp only [mbk]
theorem lordsK {b : BV} (g : Good b) : k_lords_of b = .ok ((rng 0 b.strengths.length).map (lordV b.ring b.strengths)) := by
  unfold k_lords_of kc_lords_of
  have := g.big
  rw [lenK g.big, mbk, rngK (by decide) (by decide) (by omega) (by omega), mbk, mapC_ok (g := lordV b.ring b.strengths) (lineK (by rw [rng_len]; omega)) fun x hx => lordK g.big (mem_rng.mp hx).1 (mem_rng.mp hx).2, mbk]
  rfl
theorem ixMapR {α : Type} {f : Int → α} {n k : Int} (h1 : 0 ≤ k) (h2 : k < n) : ixM ((rng 0 n).map f) k = .ok (f k) := by
  refine ixE h1 ?_
  rw [List.getElem?_map, rng_get (by omega)]
  simp only [Option.map_some]
  rw [show (0 : Int) + (k.toNat : Int) = k by omega]
def leadV (ring : Bool) (ss : List Int) : List Int := (rng 0 ss.length).filter fun k => (lordV ring ss k).isNone
theorem leadersK {b : BV} (g : Good b) : k_leaders_of b = .ok (leadV b.ring b.strengths) := by
  unfold k_leaders_of kc_leaders_of
  have hb := g.big
  rw [lordsK g, mbk, lenK hb, mbk, rngK (by decide) (by decide) (by omega) (by omega), mbk, lcK (fun k => (lordV b.ring b.strengths k).isNone) (fun k => k) (by rw [rng_len]; omega), List.map_id']
  · rfl
  · intro k hk
    have := mem_rng.mp hk
    rw [ixMapR this.1 this.2]
    rfl
  · intro k _; rfl
/-! ### the nearest whose train holds p -/
theorem find_same {α : Type} {P Q : α → Bool} : ∀ (l : List α), (∀ x ∈ l, Q x = true → P x = true) → (∀ (i : Nat) (x : α), l[i]? = some x → P x = true → (∀ (k : Nat) (y : α), k < i → l[k]? = some y → P y = false) → Q x = true) → l.find? Q = l.find? P
  | [], _, _ => rfl
  | x :: l, h1, h2 => by
    by_cases c : P x = true
    · have q : Q x = true := h2 0 x rfl c fun k y hk _ => absurd hk (Nat.not_lt_zero _)
      rw [List.find?_cons_of_pos q, List.find?_cons_of_pos c]
    · have q : ¬ Q x = true := fun z => c (h1 x List.mem_cons_self z)
      rw [List.find?_cons_of_neg q, List.find?_cons_of_neg c]
      refine find_same l (fun y hy => h1 y (List.mem_cons_of_mem _ hy)) fun i y hy hp hk => h2 (i + 1) y (by simpa using hy) hp fun k z hkk hz => ?_
      cases k with
      | zero =>
        simp at hz
        subst hz
        simpa using c
      | succ k => exact hk k z (by omega) (by simpa using hz)
theorem lord_train {ring : Bool} {ss : List Int} {p : Int} (h1 : 0 ≤ p) (h2 : p < ss.length) : (backV ring ss.length p).find? (fun x => decide (p ∈ trainV ring ss x)) = lordV ring ss p := by
  unfold lordV
  refine find_same _ (fun x hx hq => ?_) fun i x hx hp hk => ?_
  · have hx2 := back_mem h1 h2 hx
    rw [decide_eq_true_eq] at hq ⊢
    obtain ⟨d, d1, _, d3, d4⟩ := (mem_train hx2.1 hx2.2).mp hq
    have := d4 d d1 (Int.le_refl _)
    rwa [← d3] at this
  · rw [decide_eq_true_eq] at hp ⊢
    unfold backV at hx hk
    have hl := (List.getElem?_eq_some_iff.mp hx).1
    rw [List.length_map, rng_len] at hl
    have at_ : ∀ k : Nat, k ≤ i → ((rng 1 (backN ring ss.length p)).map (bkV ss.length p))[k]? = some (bkV ss.length p (1 + k)) := fun k hk => by
      rw [List.getElem?_map, rng_get (by omega)]
      rfl
    rw [at_ i (Nat.le_refl _)] at hx
    have hx' := Option.some.inj hx
    have hb : backN ring ss.length p = if ring = true then (ss.length : Int) else p + 1 := rfl
    have x0 : 0 ≤ x ∧ x < ss.length ∧ onV ss.length x (1 + i) = p ∧ (1 + i : Int) < stepsV ring ss.length x := by
      rw [hb] at hl
      rw [← hx']
      unfold onV bkV stepsV
      cases ring with
      | true =>
        simp only [if_true] at hl ⊢
        split <;> split <;> omega
      | false =>
        simp only [Bool.false_eq_true, if_false] at hl ⊢
        split <;> split <;> omega
    refine (mem_train x0.1 x0.2.1).mpr ⟨1 + i, by omega, x0.2.2.2, x0.2.2.1.symm, fun e e1 e2 => ?_⟩
    by_cases c : e = 1 + i
    · rw [c, x0.2.2.1]
      exact hp
    · have lt : (i - e.toNat) < i := by omega
      have := hk (i - e.toNat) _ lt (at_ _ (by omega))
      rw [decide_eq_false_iff_not] at this
      have eq : bkV ss.length p (1 + ((i - e.toNat : Nat) : Int)) = onV ss.length x e := by
        rw [← hx']
        rw [hb] at hl
        unfold onV bkV
        cases ring with
        | true =>
          simp only [if_true] at hl
          split <;> split <;> (try split) <;> omega
        | false =>
          simp only [Bool.false_eq_true, if_false] at hl
          split <;> split <;> (try split) <;> omega
      rw [eq] at this
      omega
theorem lord_some {ring : Bool} {ss : List Int} {p j : Int} (h1 : 0 ≤ p) (h2 : p < ss.length) (h : lordV ring ss p = some j) : (0 ≤ j ∧ j < ss.length) ∧ sAt ss p < sAt ss j := by
  unfold lordV at h
  have a := List.mem_of_find?_eq_some h
  have b := List.find?_some h
  exact ⟨back_mem h1 h2 a, of_decide_eq_true b⟩
/-- a ring's leaders are its strongest -/
theorem lord_none {ss : List Int} {p : Int} (h1 : 0 ≤ p) (h2 : p < ss.length) : lordV true ss p = none ↔ ∀ k, 0 ≤ k → k < (ss.length : Int) → sAt ss k ≤ sAt ss p := by
  unfold lordV
  rw [List.find?_eq_none]
  constructor
  · intro h k k1 k2
    by_cases c : k = p
    · rw [c]; exact Int.le_refl _
    · have hm : k ∈ backV true ss.length p := by
        unfold backV backN
        rw [if_pos rfl, List.mem_map]
        by_cases d : k < p
        · refine ⟨p - k, mem_rng.mpr (by omega), ?_⟩
          unfold bkV
          rw [if_neg (by omega)]
          omega
        · refine ⟨p - k + ss.length, mem_rng.mpr (by omega), ?_⟩
          unfold bkV
          rw [if_pos (by omega)]
          omega
      have := h k hm
      simp only [decide_eq_true_eq] at this
      omega
  · intro h x hx
    have := back_mem h1 h2 hx
    have := h x this.1 this.2
    simp only [decide_eq_true_eq]
    omega
theorem areLordsK {xs : List (Option Int)} (hl : xs.length ≤ 90000) : k__law_are_lords xs xs = .ok true := by
  unfold k__law_are_lords kc__law_are_lords
  rw [if_neg (by simp), rngK (by decide) (by decide) (by omega) (by omega), mbk, forM_pass, sqk]
  · rfl
  · intro k hk
    have := mem_rng.mp hk
    obtain ⟨x, e1, e2⟩ := ixK (xs := xs) this.1 this.2
    rw [e2]
    simp only [mbk, isintOK]
    cases x with
    | none => simp [mbk]
    | some z => simp [mbk]
end DL

namespace DL
open PySem L2
/-! ## tallies -/
def kc_counted (strengths : (List Int)) (told : (List Int)) : M (Out Unit Empty (List (Int × Int))) := sq (forM (fun (x1 : (Int × Int)) (s2 : List (Int × Int)) =>
    (fun j3 : Int =>
    mb (putM s2 x1.1 (((getA s2 x1.1).getD 0) + j3)) fun numbers4 =>
    .ok (.nx numbers4)) (if (decide (x1.1 < x1.2)) = true then (-1) else 1)) (List.zip strengths told) ([] : List (Int × Int))) fun s5 =>
    mb (lcM (fun value6 => mb (getM s5 value6) fun v7 => (.ok (!decide (v7 = 0)))) (fun value6 => mb (getM s5 value6) fun v8 => (.ok (value6, v8))) (sortI (List.map (fun kv => kv.1) s5))) fun v9 => .ok (.rt v9)
def k_counted (strengths : (List Int)) (told : (List Int)) : M (List (Int × Int)) := fnV .no (kc_counted strengths told)
def kc_tally_of (beads : BV) : M (Out Unit Empty (List (Int × Int))) := mb (mb (k_reaches beads) fun v1 => k_counted beads.strengths v1) fun v2 => .ok (.rt v2)
def k_tally_of (beads : BV) : M (List (Int × Int)) := fnV .no (kc_tally_of beads)
def kc_compare_tallies (one : (List (Int × Int))) (other : (List (Int × Int))) : M (Out Unit Empty Int) := mb (mb (catM (List.map (fun kv => kv.1) (mergeA one)) (List.map (fun kv => kv.1) (mergeA other))) fun v1 => sortSetB v1) fun v2 => sq (forM (fun (value3 : Int) (s4 : Unit) =>
    let difference5 := ((getA (mergeA one) value3).getD 0) - ((getA (mergeA other) value3).getD 0)
    if (decide (difference5 < 0)) = true then .ok (.rt (-1))
    else if (decide (0 < difference5)) = true then .ok (.rt 1)
    else .ok (.nx ())) v2 ()) fun s6 =>
    .ok (.rt 0)
def k_compare_tallies (one : (List (Int × Int))) (other : (List (Int × Int))) : M Int := fnV .no (kc_compare_tallies one other)
def kc__law_tally (round_flag : Bool) (sizes : (List Int)) (strengths : (List Int)) : M (Out Unit Empty (List (Int × Int))) := mb (sortSet strengths) fun v1 => sq (forM (fun (value2 : Int) (s3 : List (Int × Int)) =>
    mb (rngM 0 (sizes.length : Int)) fun v4 => sq (forM (fun (k5 : Int) (s6 : Int) =>
    mb (mb (ixM strengths k5) fun v7 => (.ok (decide (v7 = value2)))) fun v8 => if v8 = true then mb (mb (k__law_reach round_flag sizes strengths k5) fun v9 => (.ok (decide (value2 < v9)))) fun v10 => if v10 = true then .ok (.nx (s6 - 1))
    else .ok (.nx (s6 + 1))
    else .ok (.nx s6)) v4 0) fun s11 =>
    if (!decide (s11 = 0)) = true then mb (app s3 (value2, s11)) fun tally12 =>
    .ok (.nx tally12)
    else .ok (.nx s3)) v1 ([] : List (Int × Int))) fun s13 =>
    .ok (.rt s13)
def k__law_tally (round_flag : Bool) (sizes : (List Int)) (strengths : (List Int)) : M (List (Int × Int)) := fnV .no (kc__law_tally round_flag sizes strengths)
def kc__law_at (tally : (List (Int × Int))) (value : Int) : M (Out Unit Empty Int) := sq (forM (fun (pair1 : (Int × Int)) (s2 : Unit) =>
    if (decide (pair1.1 = value)) = true then .ok (.rt pair1.2)
    else .ok (.nx ())) tally ()) fun s3 =>
    .ok (.rt 0)
def k__law_at (tally : (List (Int × Int))) (value : Int) : M Int := fnV .no (kc__law_at tally value)
section
variable {α β γ δ ρ : Type}
theorem forM_all {f : α → γ → M (Out γ γ ρ)} (g : γ → α → γ) (P : γ → Prop) : ∀ {xs : List α} {s0 : γ}, P s0 → (∀ x ∈ xs, ∀ s, P s → f x s = .ok (.nx (g s x)) ∧ P (g s x)) → (forM f xs s0 : M (Out γ δ ρ)) = .ok (.nx (xs.foldl g s0)) ∧ P (xs.foldl g s0)
  | [], s0, h, _ => ⟨rfl, h⟩
  | x :: xs, s0, h, hs => by
    obtain ⟨e, p⟩ := hs x List.mem_cons_self s0 h
    unfold forM
    rw [e]
    exact forM_all g P p fun y hy => hs y (List.mem_cons_of_mem _ hy)
end
/-- a mark against its reach: down or up -/
def sgn (v r : Int) : Int := if v < r then -1 else 1
/-- what is counted at v -/
def numAt (zs : List (Int × Int)) (v : Int) : Int := (zs.map fun x => if x.1 = v then sgn x.1 x.2 else 0).sum
theorem getA_app {kvs : List (Int × Int)} {k z j : Int} (h : ∀ kv ∈ kvs, kv.1 ≠ k) : getA (kvs ++ [(k, z)]) j = if j = k then some z else getA kvs j := by
  unfold getA
  rw [List.find?_append]
  by_cases e : j = k
  · subst e
    rw [if_pos rfl, show kvs.find? (fun kv => decide (kv.1 = j)) = none from List.find?_eq_none.mpr fun kv hk => by simp [h kv hk]]
    simp
  · rw [if_neg e]
    cases q : kvs.find? (fun kv => decide (kv.1 = j)) with
    | some x => simp
    | none => simp [Ne.symm e]
theorem getA_map {k z j : Int} : ∀ {kvs : List (Int × Int)}, (∃ kv ∈ kvs, kv.1 = k) → getA (kvs.map fun kv => if kv.1 = k then (kv.1, z) else kv) j = if j = k then some z else getA kvs j
  | [], h => by obtain ⟨_, h, _⟩ := h; cases h
  | p :: kvs, h => by
    have ih := @getA_map k z j kvs
    unfold getA at *
    rw [List.map_cons, List.find?_cons, List.find?_cons]
    by_cases e : p.1 = k
    · rw [if_pos e]
      by_cases f : j = k
      · have : p.1 = j := by omega
        simp [this, f]
      · have : p.1 ≠ j := by omega
        simp only [this, decide_false]
        rw [if_neg f]
        by_cases hh : ∃ kv ∈ kvs, kv.1 = k
        · rw [ih hh, if_neg f]
        · rw [show (kvs.map fun kv => if kv.1 = k then (kv.1, z) else kv) = kvs from by
            conv => rhs; rw [← List.map_id kvs]
            exact List.map_congr_left fun kv hk => if_neg fun q => hh ⟨kv, hk, q⟩]
    · rw [if_neg e]
      obtain ⟨kv, h1, h2⟩ := h
      have hh : ∃ kv ∈ kvs, kv.1 = k := by
        rcases List.mem_cons.mp h1 with rfl | h1
        · exact absurd h2 e
        · exact ⟨kv, h1, h2⟩
      by_cases f : p.1 = j
      · have : j ≠ k := by omega
        simp [f, this]
      · simp only [f, decide_false]
        exact ih hh
theorem putA_in {kvs : List (Int × Int)} {k z : Int} (h : ∃ kv ∈ kvs, kv.1 = k) : putA kvs k z = kvs.map fun kv => if kv.1 = k then (kv.1, z) else kv := by
  unfold putA
  rw [if_pos]
  obtain ⟨kv, h1, h2⟩ := h
  exact List.any_eq_true.mpr ⟨kv, h1, decide_eq_true h2⟩
theorem putA_out {kvs : List (Int × Int)} {k z : Int} (h : ∀ kv ∈ kvs, kv.1 ≠ k) : putA kvs k z = kvs ++ [(k, z)] := by
  unfold putA
  rw [if_neg]
  intro q
  obtain ⟨kv, h1, h2⟩ := List.any_eq_true.mp q
  exact h kv h1 (of_decide_eq_true h2)
theorem get_put {kvs : List (Int × Int)} {k z j : Int} : getA (putA kvs k z) j = if j = k then some z else getA kvs j := by
  by_cases h : ∃ kv ∈ kvs, kv.1 = k
  · rw [putA_in h, getA_map h]
  · have h' : ∀ kv ∈ kvs, kv.1 ≠ k := fun kv hk q => h ⟨kv, hk, q⟩
    rw [putA_out h', getA_app h']
theorem keys_put {kvs : List (Int × Int)} {k z : Int} : (putA kvs k z).map (·.1) = if k ∈ kvs.map (·.1) then kvs.map (·.1) else kvs.map (·.1) ++ [k] := by
  by_cases h : ∃ kv ∈ kvs, kv.1 = k
  · rw [putA_in h, if_pos (by obtain ⟨kv, h1, h2⟩ := h; exact List.mem_map.mpr ⟨kv, h1, h2⟩), List.map_map]
    refine List.map_congr_left fun kv _ => ?_
    simp only [Function.comp]
    split <;> rfl
  · have h' : ∀ kv ∈ kvs, kv.1 ≠ k := fun kv hk q => h ⟨kv, hk, q⟩
    rw [putA_out h', if_neg (by
      intro q
      obtain ⟨kv, h1, h2⟩ := List.mem_map.mp q
      exact h' kv h1 h2), List.map_append]
    rfl
/-- the numbers so far -/
structure NumS (zs kvs : List (Int × Int)) : Prop where
  nd : (kvs.map (·.1)).Nodup
  mem : ∀ k, k ∈ kvs.map (·.1) ↔ k ∈ zs.map (·.1)
  get : ∀ k, getA kvs k = if k ∈ zs.map (·.1) then some (numAt zs k) else none
  len : kvs.length ≤ zs.length
def stepN (kvs : List (Int × Int)) (x : Int × Int) : List (Int × Int) := putA kvs x.1 ((getA kvs x.1).getD 0 + if x.1 < x.2 then -1 else 1)
theorem numAt_out {zs : List (Int × Int)} {v : Int} (h : v ∉ zs.map (·.1)) : numAt zs v = 0 := by
  unfold numAt
  have : ∀ x ∈ zs, (if x.1 = v then sgn x.1 x.2 else 0) = 0 := fun x hx => if_neg fun q => h (List.mem_map.mpr ⟨x, hx, q⟩)
  rw [List.map_congr_left this]
  induction zs with
  | nil => rfl
  | cons z zs ih =>
    rw [List.map_cons, List.sum_cons, ih (fun q => h (by rw [List.map_cons]; exact List.mem_cons_of_mem _ q)) (fun x hx => this x (List.mem_cons_of_mem _ hx))]
    rfl
theorem numS_step {zs kvs : List (Int × Int)} {x : Int × Int} (h : NumS zs kvs) : NumS (zs ++ [x]) (stepN kvs x) := by
  have hm : ∀ k, k ∈ (zs ++ [x]).map (·.1) ↔ k ∈ zs.map (·.1) ∨ k = x.1 := fun k => by
    rw [List.map_append, List.mem_append, List.map_singleton, List.mem_singleton]
  have hn : ∀ k, numAt (zs ++ [x]) k = numAt zs k + if x.1 = k then sgn x.1 x.2 else 0 := fun k => by
    unfold numAt
    rw [List.map_append, List.sum_append]
    simp
  refine ⟨?_, fun k => ?_, fun k => ?_, ?_⟩
  · unfold stepN
    rw [keys_put]
    split
    · exact h.nd
    · rename_i q
      exact List.nodup_append.mpr ⟨h.nd, List.nodup_cons.mpr ⟨List.not_mem_nil, List.nodup_nil⟩, fun a ha b hb e => q (by rw [List.mem_singleton] at hb; rw [← hb, ← e]; exact ha)⟩
  · unfold stepN
    rw [keys_put, hm, ← h.mem]
    split
    · rename_i q
      exact ⟨.inl, fun z => z.elim id fun z => z ▸ q⟩
    · rw [List.mem_append, List.mem_singleton]
  · unfold stepN
    rw [get_put, hn]
    by_cases e : k = x.1
    · subst e
      rw [if_pos rfl, if_pos ((hm _).mpr (.inr rfl)), if_pos rfl, h.get]
      by_cases q : x.1 ∈ zs.map (·.1)
      · rw [if_pos q]; rfl
      · rw [if_neg q, numAt_out q]; rfl
    · rw [if_neg e, h.get, if_neg (Ne.symm e), Int.add_zero]
      by_cases q : k ∈ zs.map (·.1)
      · rw [if_pos q, if_pos ((hm _).mpr (.inl q))]
      · rw [if_neg q, if_neg fun z => ((hm _).mp z).elim q e]
  · have : (stepN kvs x).length ≤ kvs.length + 1 := by
      have := congrArg List.length (keys_put (kvs := kvs) (k := x.1) (z := (getA kvs x.1).getD 0 + if x.1 < x.2 then -1 else 1))
      rw [List.length_map] at this
      unfold stepN
      rw [this]
      split
      · rw [List.length_map]; omega
      · rw [List.length_append, List.length_map]; simp
    have := h.len
    rw [List.length_append, List.length_singleton]
    omega
theorem numS_all : ∀ (ys zs kvs : List (Int × Int)), NumS zs kvs → NumS (zs ++ ys) (ys.foldl stepN kvs)
  | [], zs, kvs, h => by rw [List.append_nil]; exact h
  | y :: ys, zs, kvs, h => by
    have := numS_all ys (zs ++ [y]) (stepN kvs y) (numS_step h)
    rwa [List.append_assoc] at this
theorem numS_nil : NumS [] [] := ⟨List.nodup_nil, fun _ => Iff.rfl, fun _ => rfl, Nat.le_refl _⟩
/-- the tally: ascending, without 0 -/
def tallyV (zs : List (Int × Int)) : List (Int × Int) := ((usort (zs.map (·.1))).filter fun v => !decide (numAt zs v = 0)).map fun v => (v, numAt zs v)
theorem sortI_perm {xs ys : List Int} (h : xs.Perm ys) : sortI xs = sortI ys := by
  have p : (sortI xs).Perm xs := List.mergeSort_perm _ _
  refine sortI_eq (p.trans h) ?_
  have := List.pairwise_mergeSort (le := fun a b : Int => decide (a ≤ b)) (fun a b c h1 h2 => by simp at *; omega) (fun a b => by simp; omega) xs
  exact this.imp fun h => by simpa using h
theorem countLoop {δ ρ : Type} : ∀ (ys zs kvs : List (Int × Int)), NumS zs kvs → zs.length + ys.length ≤ 1000 →
    (forM (fun (x1 : (Int × Int)) (s2 : List (Int × Int)) => (fun j3 : Int => mb (putM s2 x1.1 (((getA s2 x1.1).getD 0) + j3)) fun numbers4 => .ok (.nx numbers4)) (if (decide (x1.1 < x1.2)) = true then (-1) else 1)) ys kvs : M (Out (List (Int × Int)) δ ρ)) = .ok (.nx (ys.foldl stepN kvs))
  | [], _, _, _, _ => rfl
  | y :: ys, zs, kvs, h, hl => by
    rw [List.length_cons] at hl
    have hk := h.len
    unfold forM
    have e : putM kvs y.1 ((getA kvs y.1).getD 0 + if (decide (y.1 < y.2)) = true then (-1) else 1) = .ok (stepN kvs y) := by
      unfold putM stepN
      rw [if_pos (Nat.lt_of_le_of_lt (show kvs.length ≤ 1000 by omega) (by decide))]
      simp only [decide_eq_true_eq]
    dsimp only
    rw [e, mbk]
    exact countLoop ys (zs ++ [y]) _ (numS_step h) (by rw [List.length_append, List.length_singleton]; omega)
theorem countedK {ss ts : List Int} (hb : (ss.zip ts).length ≤ 1000) : k_counted ss ts = .ok (tallyV (ss.zip ts)) := by
  unfold k_counted kc_counted
  rw [countLoop (ss.zip ts) [] [] numS_nil (by simpa using hb), sqk]
  have h := numS_all (ss.zip ts) [] [] numS_nil
  rw [List.nil_append] at h
  generalize (ss.zip ts).foldl stepN [] = kvs at h
  generalize ss.zip ts = zs at h hb
  have hs : sortI (kvs.map fun kv => kv.1) = usort (zs.map (·.1)) := sortI_perm ((List.perm_ext_iff_of_nodup h.nd (nub_nodup _)).mpr fun k => by rw [h.mem, mem_nub])
  have hk := h.len
  have hg : ∀ v ∈ usort (zs.map (·.1)), getM kvs v = .ok (numAt zs v) := fun v hv => by
    unfold getM
    rw [h.get, if_pos (mem_usort.mp hv)]
  have hl : (usort (zs.map (·.1))).length ≤ 1000000 := by
    rw [← hs]
    have := (List.mergeSort_perm (kvs.map fun kv => kv.1) fun a b => decide (a ≤ b)).length_eq
    unfold sortI
    rw [this, List.length_map]
    omega
  rw [hs, lcK (fun v => !decide (numAt zs v = 0)) (fun v => (v, numAt zs v)) hl]
  · rfl
  · intro v hv; rw [hg v hv, mbk]
  · intro v hv; rw [hg v hv, mbk]
theorem tally_ofK {b : BV} (g : Good b) (hb : b.strengths.length ≤ 1000) : k_tally_of b = .ok (tallyV (b.strengths.zip ((rng 0 b.strengths.length).map (reachV b)))) := by
  unfold k_tally_of kc_tally_of
  rw [reachesK g, mbk, countedK (by rw [List.length_zip]; omega)]
  rfl
theorem zip_rng {f : Int → Int} : ∀ (ss : List Int), ss.zip ((rng 0 ss.length).map f) = (rng 0 ss.length).map fun k => (sAt ss k, f k) := fun ss => by
  refine List.ext_getElem? fun i => ?_
  by_cases h : i < ss.length
  · have h2 : (rng 0 (ss.length : Int))[i]? = some (i : Int) := by rw [rng_get (by omega)]; simp
    rw [(List.getElem?_zip_eq_some (z := (ss[i], f i))).mpr ⟨List.getElem?_eq_getElem h, by rw [List.getElem?_map, h2]; rfl⟩, List.getElem?_map, h2]
    simp [sAt, List.getElem?_eq_getElem h]
  · rw [List.getElem?_eq_none (by rw [List.length_zip]; omega), List.getElem?_eq_none (by rw [List.length_map, rng_len]; omega)]
/-- the tally of a standing -/
def talV (b : BV) : List (Int × Int) := tallyV ((rng 0 b.strengths.length).map fun k => (sAt b.strengths k, reachV b k))
theorem talK {b : BV} (g : Good b) (hb : b.strengths.length ≤ 1000) : k_tally_of b = .ok (talV b) := by
  rw [tally_ofK g hb, zip_rng]
  rfl
theorem fst_rng (ss : List Int) (f : Int → Int) : ((rng 0 ss.length).map fun k => (sAt ss k, f k)).map (·.1) = ss := by
  rw [List.map_map]
  refine sAt_ext (by rw [List.length_map, rng_len]; omega) fun k h1 h2 => ?_
  rw [List.length_map, rng_len] at h2
  have h3 : (rng 0 (ss.length : Int))[k.toNat]? = some k := by rw [rng_get (by omega)]; congr 1; omega
  unfold sAt
  rw [List.getD_eq_getElem?_getD, List.getElem?_map, h3]
  rfl
/-! the law's own way to count -/
theorem foldl_add {α : Type} {g : α → Int} : ∀ (xs : List α) (a : Int), xs.foldl (fun s x => s + g x) a = a + (xs.map g).sum
  | [], a => by simp
  | x :: xs, a => by rw [List.foldl_cons, foldl_add xs]; simp; omega
theorem forM_filtM {α β ρ δ : Type} {f : α → List β → M (Out (List β) (List β) ρ)} {q : α → Bool} {g : α → β} : ∀ {xs : List α} {s0 : List β}, (∀ x ∈ xs, ∀ s : List β, s.length ≤ 900000 → f x s = .ok (.nx (if q x = true then s ++ [g x] else s))) → s0.length + xs.length ≤ 900000 → (forM f xs s0 : M (Out (List β) δ ρ)) = .ok (.nx (s0 ++ (xs.filter q).map g))
  | [], s0, _, _ => by simp [forM]
  | x :: xs, s0, h, hl => by
    rw [List.length_cons] at hl
    unfold forM
    rw [h x List.mem_cons_self s0 (by omega)]
    simp only
    by_cases c : q x = true
    · rw [if_pos c, forM_filtM (fun y hy => h y (List.mem_cons_of_mem _ hy)) (by rw [List.length_append, List.length_singleton]; omega), List.filter_cons_of_pos c]
      simp
    · rw [if_neg c, forM_filtM (fun y hy => h y (List.mem_cons_of_mem _ hy)) (by omega), List.filter_cons_of_neg c]
theorem nub_len : ∀ xs : List Int, (nub xs).length ≤ xs.length
  | [] => Nat.le_refl _
  | x :: xs => by
    have := nub_len xs
    unfold nub
    split
    · rw [List.length_cons]; omega
    · rw [List.length_cons, List.length_cons]; omega
theorem usort_le (xs : List Int) : (usort xs).length ≤ xs.length := by
  unfold usort sortI
  rw [(List.mergeSort_perm _ _).length_eq]
  exact nub_len xs
theorem lawTallyK {r : Bool} {zs ss : List Int} (g : Good ⟨ss, zs, r⟩) (hb : ss.length < 64) : k__law_tally r zs ss = .ok (talV ⟨ss, zs, r⟩) := by
  unfold k__law_tally kc__law_tally
  have hz : zs.length = ss.length := g.len
  have ss1 : sortSet ss = .ok (usort ss) := by unfold sortSet; rw [if_pos hb]
  have ul := usort_le ss
  rw [ss1, mbk, rngK (by decide) (by decide) (by omega) (by omega)]
  rw [forM_filtM (q := fun v => !decide (numAt ((rng 0 ss.length).map fun k => (sAt ss k, reachV ⟨ss, zs, r⟩ k)) v = 0)) (g := fun v => (v, numAt ((rng 0 ss.length).map fun k => (sAt ss k, reachV ⟨ss, zs, r⟩ k)) v)) ?_ (by simp; omega), sqk]
  · unfold talV tallyV
    simp only [fst_rng]
    rfl
  · intro v _ s hs
    rw [mbk]
    have key := forM_all (δ := List (Int × Int)) (ρ := List (Int × Int)) (f := fun (k5 : Int) (s6 : Int) =>
      mb (mb (ixM ss k5) fun v7 => (.ok (decide (v7 = v)))) fun v8 => if v8 = true then mb (mb (k__law_reach r zs ss k5) fun v9 => (.ok (decide (v < v9)))) fun v10 => if v10 = true then .ok (.nx (s6 - 1))
      else .ok (.nx (s6 + 1))
      else .ok (.nx s6)) (fun s k => s + if sAt ss k = v then sgn (sAt ss k) (reachV ⟨ss, zs, r⟩ k) else 0) (fun _ => True) (xs := rng 0 ss.length) (s0 := 0) trivial (fun k hk t _ => by
        have := mem_rng.mp hk
        refine ⟨?_, trivial⟩
        rw [ixS this.1 this.2, mbk, mbk]
        by_cases e : sAt ss k = v
        · rw [if_pos (decide_eq_true e), lawReachK hz (by omega) this.1 this.2, mbk, mbk, if_pos e]
          unfold sgn
          by_cases q : v < reachV ⟨ss, zs, r⟩ k
          · rw [if_pos (decide_eq_true q), if_pos (by rw [e]; exact q)]; rfl
          · rw [if_neg (by simpa using q), if_neg (by rw [e]; exact q)]
        · rw [if_neg (by simpa using e), if_neg e, Int.add_zero])
    rw [hz, key.1, sqk, foldl_add]
    have en : numAt ((rng 0 ss.length).map fun k => (sAt ss k, reachV ⟨ss, zs, r⟩ k)) v = ((rng 0 ss.length).map fun k => if sAt ss k = v then sgn (sAt ss k) (reachV ⟨ss, zs, r⟩ k) else 0).sum := by
      unfold numAt
      rw [List.map_map]
      rfl
    rw [Int.zero_add, ← en]
    generalize numAt ((rng 0 ss.length).map fun k => (sAt ss k, reachV ⟨ss, zs, r⟩ k)) v = m
    by_cases q : m = 0
    · simp [q]
    · rw [if_pos (by simp [q]), appK (by omega), mbk, if_pos (by simp [q])]
/-! what a tally tells at a value -/
def atV (t : List (Int × Int)) (v : Int) : Int := (getA t v).getD 0
theorem atK (t : List (Int × Int)) (v : Int) : k__law_at t v = .ok (atV t v) := by
  unfold k__law_at kc__law_at
  rw [forM_ret (fun x => decide (x.1 = v)) (fun x => x.2)]
  · unfold atV getA
    cases t.find? (fun x => decide (x.1 = v)) <;> rfl
  · intro x _; rfl
theorem merge_same : ∀ (t acc : List (Int × Int)), ((acc ++ t).map (·.1)).Nodup → t.foldl (fun acc kv => putA acc kv.1 kv.2) acc = acc ++ t
  | [], acc, _ => by simp
  | kv :: t, acc, h => by
    rw [List.foldl_cons, putA_out, merge_same t _ (by simpa using h)]
    · simp
    · intro x hx q
      rw [List.map_append, List.map_cons] at h
      exact (List.nodup_append.mp h).2.2 x.1 (List.mem_map.mpr ⟨x, hx, rfl⟩) kv.1 List.mem_cons_self q
theorem mergeN {t : List (Int × Int)} (h : (t.map (·.1)).Nodup) : mergeA t = t := merge_same t [] (by simpa using h)
/-- less, equal, greater -/
def cmpV (one other : List (Int × Int)) : Int := match (usort (one.map (·.1) ++ other.map (·.1))).find? fun v => !decide (atV one v = atV other v) with
  | some v => if atV one v < atV other v then -1 else 1
  | none => 0
theorem cmpK {one other : List (Int × Int)} (h1 : (one.map (·.1)).Nodup) (h2 : (other.map (·.1)).Nodup) (hl : one.length + other.length < 500) : k_compare_tallies one other = .ok (cmpV one other) := by
  unfold k_compare_tallies kc_compare_tallies
  rw [mergeN h1, mergeN h2, catK (by simp; omega), mbk]
  have e : sortSetB (one.map (·.1) ++ other.map (·.1)) = .ok (usort (one.map (·.1) ++ other.map (·.1))) := by
    unfold sortSetB
    rw [if_pos (by simp; omega)]
  rw [e, mbk, forM_ret (fun v => !decide (atV one v = atV other v)) (fun v => if atV one v < atV other v then -1 else 1)]
  · unfold cmpV
    cases (usort (one.map (·.1) ++ other.map (·.1))).find? (fun v => !decide (atV one v = atV other v)) <;> rfl
  · intro v _
    unfold atV
    generalize (getA one v).getD 0 = p
    generalize (getA other v).getD 0 = q
    dsimp only
    by_cases a : p < q
    · rw [if_pos (decide_eq_true (by omega)), if_pos (by simp; omega), if_pos a]
    · rw [if_neg (by simp; omega)]
      by_cases c : q < p
      · rw [if_pos (decide_eq_true (by omega)), if_pos (by simp; omega), if_neg a]
      · rw [if_neg (by simp; omega), if_neg (by simp; omega)]
theorem usort_up (xs : List Int) : (usort xs).Pairwise (· ≤ ·) := by
  have := List.pairwise_mergeSort (le := fun a b : Int => decide (a ≤ b)) (fun a b c h1 h2 => by simp at *; omega) (fun a b => by simp; omega) (nub xs)
  exact this.imp fun h => by simpa using h
theorem usort_nodup (xs : List Int) : (usort xs).Nodup := (List.mergeSort_perm _ _).nodup_iff.mpr (nub_nodup xs)
theorem find_least {q : Int → Bool} : ∀ {xs : List Int} {v : Int}, xs.Pairwise (· ≤ ·) → xs.find? q = some v → ∀ w ∈ xs, q w = true → v ≤ w
  | [], _, _, h, _, _, _ => by cases h
  | x :: xs, v, hp, h, w, hw, hq => by
    obtain ⟨p1, p2⟩ := List.pairwise_cons.mp hp
    rw [List.find?_cons] at h
    cases e : q x with
    | true =>
      rw [e] at h
      cases h
      rcases List.mem_cons.mp hw with rfl | hw
      · exact Int.le_refl _
      · exact p1 w hw
    | false =>
      rw [e] at h
      rcases List.mem_cons.mp hw with rfl | hw
      · rw [e] at hq; cases hq
      · exact find_least p2 h w hw hq
end DL

namespace DL
open PySem L2
/-! ## marks -/
def kc_gaps_between (places : (List Int)) (size : Int) : M (Out Unit Empty (List Int)) := let many1 := (places.length : Int)
    mb (mb (rngM 0 many1) fun v2 => mapC (fun k3 => mb (mb (mb (mb (mb (modM (k3 + 1) many1) fun v4 => ixM places v4) fun v5 => mb (ixM places k3) fun v6 => (.ok (v5 - v6))) fun v7 => (.ok (v7 - 1))) fun v8 => modM v8 size) fun v9 => (.ok (v9 + 1))) v2) fun v10 => .ok (.rt v10)
def k_gaps_between (places : (List Int)) (size : Int) : M (List Int) := fnV .no (kc_gaps_between places size)
def kc_Marks___init__ (size : Int) (places : (List Int)) : M (Out (Int × (List Int) × (List Int)) Empty Unit) := if (decide ((places.length : Int) = 0)) = true then .er ⟨"BadMarks", [("place", eI (-1))]⟩
    else sq (forM (fun (place1 : Int) (s2 : List (Int × Bool)) =>
    if ((decide (place1 < 0)) || ((decide (size ≤ place1)) || ((getA s2 place1).isSome))) = true then .er ⟨"BadMarks", [("place", eI place1)]⟩
    else mb (putM s2 place1 true) fun seen3 =>
    .ok (.nx seen3)) places ([] : List (Int × Bool))) fun s4 =>
    mb (k_gaps_between (sortI places) size) fun gaps5 =>
    .ok (.nx ⟨size, (sortI places), gaps5⟩)
def k_Marks___init__ (size : Int) (places : (List Int)) : M (Int × (List Int) × (List Int)) := fnI (kc_Marks___init__ size places)
def kc_Marks___len__ (self : (Int × (List Int) × (List Int))) : M (Out Unit Empty Int) := .ok (.rt (self.2.1.length : Int))
def k_Marks___len__ (self : (Int × (List Int) × (List Int))) : M Int := fnV .no (kc_Marks___len__ self)
def kc__law_gaps (places : (List Int)) (size : Int) : M (Out Unit Empty (List Int)) := let many1 := (places.length : Int)
    mb (mb (rngM 0 many1) fun v2 => mapC (fun k3 => mb (mb (mb (mb (mb (modM (k3 + 1) many1) fun v4 => ixM places v4) fun v5 => mb (ixM places k3) fun v6 => (.ok (v5 - v6))) fun v7 => (.ok (v7 - 1))) fun v8 => modM v8 size) fun v9 => (.ok (v9 + 1))) v2) fun v10 => .ok (.rt v10)
def k__law_gaps (places : (List Int)) (size : Int) : M (List Int) := fnV .no (kc__law_gaps places size)
def kc__law_is_marks (actual : (Int × (List Int) × (List Int))) (size : Int) (places : (List Int)) : M (Out Unit Empty Bool) := mb (if (!true) = true then .ok true else mb (mb (k__law_is_integer actual.1) fun v1 => (.ok (!v1))) fun v2 => (.ok (v2 || (!decide (actual.1 = size))))) fun v3 => if v3 = true then .ok (.rt false)
    else mb (mb (k__law_numbers_v1 actual.2.1 places true) fun v4 => (.ok (!v4))) fun v5 => if v5 = true then .ok (.rt false)
    else mb (mb (mb (k__law_gaps places size) fun v6 => k__law_numbers_v1 actual.2.2 v6 true) fun v7 => (.ok (!v7))) fun v8 => if v8 = true then .ok (.rt false)
    else mb (mb (mb (mb (k_Marks___len__ actual) lenO) fun v9 => (.ok (decide (v9 = (places.length : Int))))) fun v10 => if v10 = true then mb (mb (k_Marks___len__ actual) fun n => lsO n actual.2.1) fun v11 => k__law_numbers v11 places false else .ok false) fun v12 => .ok (.rt v12)
def k__law_is_marks (actual : (Int × (List Int) × (List Int))) (size : Int) (places : (List Int)) : M Bool := fnV .no (kc__law_is_marks actual size places)
def kc__law_kept (places : (List Int)) (size : Int) : M (Out Unit Empty (List Int)) := mb (k__law_gaps places size) fun gaps1 =>
    mb (maxI gaps1) fun longest2 =>
    mb (mb (rngM 0 (places.length : Int)) fun v3 => lcM (fun k4 => mb (ixM gaps1 k4) fun v5 => (.ok (decide (v5 = longest2)))) (fun k4 => ixM places k4) v3) fun v6 => .ok (.rt v6)
def k__law_kept (places : (List Int)) (size : Int) : M (List Int) := fnV .no (kc__law_kept places size)
def kc__law_rounds (places : (List Int)) (size : Int) : M (Out Unit Empty (List (List Int))) := mb (rngM 0 60) fun v1 => sq (forM (fun (step2 : Int) (s3 : List (List Int)) =>
    mb (mb (ixM s3 (-1)) fun v4 => k__law_kept v4 size) fun kept5 =>
    mb (mb (ixM s3 (-1)) fun v6 => (.ok (decide (kept5 = v6)))) fun v7 => if v7 = true then .ok (.bk s3)
    else mb (app s3 kept5) fun rounds8 =>
    .ok (.nx rounds8)) v1 [places]) fun s9 =>
    .ok (.rt s9)
def k__law_rounds (places : (List Int)) (size : Int) : M (List (List Int)) := fnV .no (kc__law_rounds places size)
def kc_mark_round (marks : (Int × (List Int) × (List Int))) : M (Out Unit Empty (Int × (List Int) × (List Int))) := mb (maxI marks.2.2) fun longest1 =>
    mb (mb (lcM (fun x2 => (.ok (decide (x2.2 = longest1)))) (fun x2 => (.ok x2.1)) (List.zip marks.2.1 marks.2.2)) fun v3 => k_Marks___init__ marks.1 v3) fun v4 => .ok (.rt v4)
def k_mark_round (marks : (Int × (List Int) × (List Int))) : M (Int × (List Int) × (List Int)) := fnV .no (kc_mark_round marks)
def kc_mark_rounds (marks : (Int × (List Int) × (List Int))) : M (Out Unit Empty (List (List Int))) := mb (k_mark_round marks) fun kept1 =>
    sq (whileM (fun (s2 : (Int × (List Int) × (List Int)) × List (List Int)) => mb (mb (k_Marks___len__ s2.1) lenO) fun v3 => mb (mb (ixM s2.2 (-1)) fun v4 => (.ok (v4.length : Int))) fun v5 => (.ok (decide (v3 < v5)))) (fun (s2 : (Int × (List Int) × (List Int)) × List (List Int)) =>
    mb (app s2.2 s2.1.2.1) fun rounds6 =>
    mb (k_mark_round s2.1) fun kept7 =>
    .ok (.nx (kept7, rounds6))) (marks.2.1.length + 1) (kept1, [marks.2.1])) fun s8 =>
    .ok (.rt s8.2)
def k_mark_rounds (marks : (Int × (List Int) × (List Int))) : M (List (List Int)) := fnV .no (kc_mark_rounds marks)
def kc__law_rounds_told (marks : (Int × (List Int) × (List Int))) (rounds : (List (List Int))) : M (Out Unit Empty Bool) := mb (k_mark_rounds marks) fun told1 =>
    if ((!true) || (!decide ((told1.length : Int) = (rounds.length : Int)))) = true then .ok (.rt false)
    else mb (rngM 0 (rounds.length : Int)) fun v2 => sq (forM (fun (k3 : Int) (s4 : Unit) =>
    mb (mb (mb (ixM told1 k3) fun v5 => mb (ixM rounds k3) fun v6 => k__law_numbers_v1 v5 v6 true) fun v7 => (.ok (!v7))) fun v8 => if v8 = true then .ok (.rt false)
    else .ok (.nx ())) v2 ()) fun s9 =>
    .ok (.rt true)
def k__law_rounds_told (marks : (Int × (List Int) × (List Int))) (rounds : (List (List Int))) : M Bool := fnV .no (kc__law_rounds_told marks rounds)
/-! ### gaps -/
def gapV (ps : List Int) (n : Int) (k : Int) : Int := (sAt ps ((k + 1) % ps.length) - sAt ps k - 1) % n + 1
def gapsV (ps : List Int) (n : Int) : List Int := (rng 0 ps.length).map (gapV ps n)
theorem gapsV_len (ps : List Int) (n : Int) : (gapsV ps n).length = ps.length := by
  unfold gapsV; rw [List.length_map, rng_len]; omega
theorem gapsK {ps : List Int} {n : Int} (hn : 0 < n) (hl : ps.length ≤ 90000) : k_gaps_between ps n = .ok (gapsV ps n) := by
  unfold k_gaps_between kc_gaps_between
  simp only
  rw [rngK (by decide) (by decide) (by omega) (by omega), mbk, mapC_ok (g := gapV ps n) (lineK (by rw [rng_len]; omega))]
  · rfl
  · intro k hk
    obtain ⟨h1, h2⟩ := mem_rng.mp hk
    have hp : 0 < (ps.length : Int) := by omega
    have m1 := Int.emod_nonneg (k + 1) (show (ps.length : Int) ≠ 0 by omega)
    have m2 := Int.emod_lt_of_pos (k + 1) hp
    rw [modK hp, mbk, ixS m1 m2, mbk, ixS h1 h2, mbk, mbk, mbk, modK hn, mbk]
    rfl
theorem lawGapsK {ps : List Int} {n : Int} (hn : 0 < n) (hl : ps.length ≤ 90000) : k__law_gaps ps n = .ok (gapsV ps n) := gapsK hn hl
theorem gap_pos {ps : List Int} {n k : Int} (hn : 0 < n) : 1 ≤ gapV ps n k ∧ gapV ps n k ≤ n := by
  unfold gapV
  have m1 := Int.emod_nonneg (sAt ps ((k + 1) % ps.length) - sAt ps k - 1) (show n ≠ 0 by omega)
  have m2 := Int.emod_lt_of_pos (sAt ps ((k + 1) % ps.length) - sAt ps k - 1) hn
  omega
/-! ### good places -/
structure OkP (ps : List Int) (n : Int) : Prop where
  ne : ps ≠ []
  asc : ps.Pairwise (· < ·)
  rg : ∀ p ∈ ps, 0 ≤ p ∧ p < n
  big : ps.length ≤ 90000
theorem OkP.pos {ps : List Int} {n : Int} (h : OkP ps n) : 0 < n := by
  obtain ⟨p, hp⟩ := List.exists_mem_of_ne_nil ps h.ne
  have := h.rg p hp
  omega
theorem seenLoop {δ ρ : Type} {n : Int} : ∀ (ps : List Int) (kvs : List (Int × Bool)), (∀ p ∈ ps, 0 ≤ p ∧ p < n) → ps.Pairwise (· ≠ ·) → (∀ kv ∈ kvs, kv.1 ∉ ps) → kvs.length + ps.length ≤ 90000 →
    ∃ q, (forM (fun (place1 : Int) (s2 : List (Int × Bool)) =>
    if ((decide (place1 < 0)) || ((decide (n ≤ place1)) || ((getA s2 place1).isSome))) = true then .er ⟨"BadMarks", [("place", eI place1)]⟩
    else mb (putM s2 place1 true) fun seen3 =>
    .ok (.nx seen3)) ps kvs : M (Out (List (Int × Bool)) δ ρ)) = .ok (.nx q)
  | [], kvs, _, _, _, _ => ⟨kvs, rfl⟩
  | p :: ps, kvs, h1, h2, h3, h4 => by
    obtain ⟨a1, a2⟩ := h1 p List.mem_cons_self
    have out : ∀ kv ∈ kvs, kv.1 ≠ p := fun kv hk e => h3 kv hk (by rw [e]; exact List.mem_cons_self)
    have nf : kvs.find? (fun kv => decide (kv.1 = p)) = none := List.find?_eq_none.mpr fun kv hk => by simpa using out kv hk
    have g : getA kvs p = none := by unfold getA; rw [nf]; rfl
    have hany : (kvs.any fun kv => decide (kv.1 = p)) = false := by
      rw [List.any_eq_false]
      intro kv hk
      simpa using out kv hk
    rw [List.length_cons] at h4
    have pm : putM kvs p true = .ok (kvs ++ [(p, true)]) := by
      unfold putM putA
      rw [if_pos (Nat.lt_of_lt_of_le (show kvs.length < 1000000 by omega) (lineK (n := 1000000) (by omega))), if_neg (by rw [hany]; decide)]
    obtain ⟨q, e⟩ := seenLoop (δ := δ) (ρ := ρ) (n := n) ps (kvs ++ [(p, true)]) (fun x hx => h1 x (List.mem_cons_of_mem _ hx)) (List.pairwise_cons.mp h2).2 (fun kv hk => by
      rcases List.mem_append.mp hk with hk | hk
      · exact fun e => h3 kv hk (List.mem_cons_of_mem _ e)
      · rw [List.mem_singleton.mp hk]
        exact fun e => (List.pairwise_cons.mp h2).1 p e rfl) (by simp; omega)
    refine ⟨q, ?_⟩
    rw [← e]
    conv => lhs; unfold forM
    rw [g, decide_eq_false (show ¬ p < 0 by omega), decide_eq_false (show ¬ n ≤ p by omega), pm]
    rfl
abbrev MV : Type := Int × List Int × List Int
def marksV (n : Int) (ps : List Int) : MV := (n, ps, gapsV ps n)
theorem sort_asc {ps : List Int} (h : ps.Pairwise (· < ·)) : sortI ps = ps := (sortI_eq (List.Perm.refl _) (h.imp fun h => Int.le_of_lt h)).symm
theorem markInitK {ps : List Int} {n : Int} (h : OkP ps n) : k_Marks___init__ n ps = .ok (marksV n ps) := by
  unfold k_Marks___init__ kc_Marks___init__
  have hne : ¬ (ps.length : Int) = 0 := fun e => h.ne (List.length_eq_zero_iff.mp (by omega))
  have hb := h.big
  obtain ⟨q, e⟩ := seenLoop (δ := Empty) (ρ := Unit) (n := n) ps [] h.rg (h.asc.imp fun h => by omega) (by simp) (by simpa using h.big)
  rw [if_neg (by simpa using h.ne), e, sqk, sort_asc h.asc, gapsK h.pos hb, mbk]
  rfl
theorem markLenK {ps : List Int} {n : Int} : k_Marks___len__ (marksV n ps) = .ok (ps.length : Int) := rfl
theorem lenOK {n : Nat} (h : n ≤ 90000) : lenO (n : Int) = .ok (n : Int) := if_pos ⟨by omega, by omega⟩
theorem lsOK {α : Type} {n : Nat} {xs : List α} (h : n ≤ 90000) : lsO (n : Int) xs = .ok xs := if_pos ⟨by omega, by omega⟩
theorem isMarksK {ps : List Int} {n : Int} (h : OkP ps n) : k__law_is_marks (marksV n ps) n ps = .ok true := by
  unfold k__law_is_marks kc__law_is_marks
  have hb := h.big
  show fnV _ (mb (if (!true) = true then .ok true else mb (mb (k__law_is_integer n) fun v1 => (.ok (!v1))) fun v2 => (.ok (v2 || (!decide (n = n))))) fun v3 => if v3 = true then .ok (.rt false)
    else mb (mb (k__law_numbers_v1 ps ps true) fun v4 => (.ok (!v4))) fun v5 => if v5 = true then .ok (.rt false)
    else mb (mb (mb (k__law_gaps ps n) fun v6 => k__law_numbers_v1 (gapsV ps n) v6 true) fun v7 => (.ok (!v7))) fun v8 => if v8 = true then .ok (.rt false)
    else mb (mb (mb (mb (k_Marks___len__ (marksV n ps)) lenO) fun v9 => (.ok (decide (v9 = (ps.length : Int))))) fun v10 => if v10 = true then mb (mb (k_Marks___len__ (marksV n ps)) fun n => lsO n ps) fun v11 => k__law_numbers v11 ps false else .ok false) fun v12 => .ok (.rt v12)) = _
  rw [isintK, numbersTK true hb, lawGapsK h.pos hb, markLenK]
  simp only [mbk, decide_true, Bool.not_true, Bool.or_false, Bool.and_true, Bool.false_eq_true, if_false]
  rw [numbersTK true (by rw [gapsV_len]; exact hb), lenOK hb, lsOK hb]
  simp only [mbk, decide_true, Bool.not_true, Bool.and_true, Bool.false_eq_true, if_false, if_true]
  rw [numbersK false hb]
  simp only [mbk, decide_true, Bool.not_false, Bool.and_true]
  rfl
/-! ### the marks with the longest gaps -/
def maxG (ps : List Int) (n : Int) : Int := match gapsV ps n with
  | [] => 0
  | g :: gs => gs.foldl max g
def keptV (ps : List Int) (n : Int) : List Int := ((rng 0 ps.length).filter fun k => decide (gapV ps n k = maxG ps n)).map (sAt ps)
theorem maxGK {ps : List Int} {n : Int} (h : ps ≠ []) : maxI (gapsV ps n) = .ok (maxG ps n) ∧ maxG ps n ∈ gapsV ps n ∧ ∀ y ∈ gapsV ps n, y ≤ maxG ps n := by
  unfold maxG
  have hl := gapsV_len ps n
  cases e : gapsV ps n with
  | nil => rw [e] at hl; exact absurd (List.length_eq_zero_iff.mp hl.symm) h
  | cons g gs => exact ⟨rfl, foldl_max gs g⟩
theorem map_rng (ps : List Int) : (rng 0 ps.length).map (sAt ps) = ps := by
  apply List.ext_getElem?
  intro i
  rw [List.getElem?_map]
  by_cases h : i < ps.length
  · rw [rng_get (by omega), List.getElem?_eq_getElem h, Option.map_some]
    unfold sAt
    rw [List.getD_eq_getElem?_getD, show ((0 : Int) + (i : Int)).toNat = i by omega, List.getElem?_eq_getElem h]
    rfl
  · rw [List.getElem?_eq_none (by rw [rng_len]; omega), List.getElem?_eq_none (by omega)]
    rfl
theorem kept_sub (ps : List Int) (n : Int) : (keptV ps n).Sublist ps := by
  have h : (keptV ps n).Sublist ((rng 0 ps.length).map (sAt ps)) := (List.filter_sublist).map _
  rwa [map_rng] at h
theorem kept_ok {ps : List Int} {n : Int} (h : OkP ps n) : OkP (keptV ps n) n := by
  have s := kept_sub ps n
  refine ⟨?_, h.asc.sublist s, fun p hp => h.rg p (s.subset hp), Nat.le_trans s.length_le h.big⟩
  obtain ⟨_, m, _⟩ := maxGK (n := n) h.ne
  unfold gapsV at m
  obtain ⟨k, hk, e⟩ := List.mem_map.mp m
  refine List.ne_nil_of_mem (a := sAt ps k) (List.mem_map.mpr ⟨k, List.mem_filter.mpr ⟨hk, by simpa using e⟩, rfl⟩)
theorem lawKeptK {ps : List Int} {n : Int} (h : OkP ps n) : k__law_kept ps n = .ok (keptV ps n) := by
  unfold k__law_kept kc__law_kept
  have hb := h.big
  rw [lawGapsK h.pos hb, mbk, (maxGK h.ne).1, mbk, rngK (by decide) (by decide) (by omega) (by omega), mbk, lcK (fun k => decide (gapV ps n k = maxG ps n)) (sAt ps) (by rw [rng_len]; omega)]
  · rfl
  · intro k hk
    obtain ⟨h1, h2⟩ := mem_rng.mp hk
    unfold gapsV
    rw [ixMapR h1 h2, mbk]
  · intro k hk
    obtain ⟨h1, h2⟩ := mem_rng.mp hk
    rw [ixS h1 h2]
theorem zip_gaps (ps : List Int) (n : Int) : List.zip ps (gapsV ps n) = (rng 0 ps.length).map fun k => (sAt ps k, gapV ps n k) := by
  unfold gapsV
  conv => lhs; lhs; rw [← map_rng ps]
  rw [List.zip_map']
theorem markRoundK {ps : List Int} {n : Int} (h : OkP ps n) : k_mark_round (marksV n ps) = .ok (marksV n (keptV ps n)) := by
  unfold k_mark_round kc_mark_round
  have hb := h.big
  show fnV _ (mb (maxI (gapsV ps n)) fun longest1 => mb (mb (lcM (fun x2 => (.ok (decide (x2.2 = longest1)))) (fun x2 => (.ok x2.1)) (List.zip ps (gapsV ps n))) fun v3 => k_Marks___init__ n v3) fun v4 => .ok (.rt v4)) = _
  rw [(maxGK h.ne).1, mbk, zip_gaps, lcK (fun x : Int × Int => decide (x.2 = maxG ps n)) (fun x => x.1) (by rw [List.length_map, rng_len]; omega) (fun _ _ => rfl) (fun _ _ => rfl), mbk]
  rw [show (((rng 0 ps.length).map fun k => (sAt ps k, gapV ps n k)).filter fun x : Int × Int => decide (x.2 = maxG ps n)).map (fun x => x.1) = keptV ps n by
    unfold keptV
    rw [List.filter_map, List.map_map]
    rfl]
  rw [markInitK (kept_ok h), mbk]
  rfl
/-! ### the rounds of marks -/
def roundsV : Nat → List Int → Int → List (List Int)
  | 0, ps, _ => [ps]
  | f + 1, ps, n => if keptV ps n = ps then [ps] else ps :: roundsV f (keptV ps n) n
theorem ixLast {α : Type} {xs : List α} {x : α} : ixM (xs ++ [x]) (-1) = .ok x := by
  have e : L2.atI (xs ++ [x]) (-1) = some x := by
    unfold L2.atI L2.ixN
    rw [if_neg (by decide), List.length_append, if_pos (by simp; omega)]
    simp only [Option.bind_some]
    rw [List.getElem?_append_right (by simp; omega)]
    rw [show (-1 + ((xs.length + [x].length : Nat) : Int)).toNat - xs.length = 0 by simp; omega]
    rfl
  unfold ixM
  rw [e]
theorem kept_lt {ps : List Int} {n : Int} (h : keptV ps n ≠ ps) : (keptV ps n).length < ps.length := by
  have s := kept_sub ps n
  have := s.length_le
  rcases Nat.lt_or_ge (keptV ps n).length ps.length with q | q
  · exact q
  · exact absurd (s.eq_of_length_le q) h
theorem lawRoundsLoop {δ ρ : Type} {n : Int} : ∀ (xs : List Int) (acc : List (List Int)) (ps : List Int), OkP ps n → acc.length + xs.length ≤ 90000 →
    (forM (fun (step2 : Int) (s3 : List (List Int)) =>
    mb (mb (ixM s3 (-1)) fun v4 => k__law_kept v4 n) fun kept5 =>
    mb (mb (ixM s3 (-1)) fun v6 => (.ok (decide (kept5 = v6)))) fun v7 => if v7 = true then .ok (.bk s3)
    else mb (app s3 kept5) fun rounds8 =>
    .ok (.nx rounds8)) xs (acc ++ [ps]) : M (Out (List (List Int)) δ ρ)) = .ok (.nx (acc ++ roundsV xs.length ps n))
  | [], acc, ps, _, _ => rfl
  | x :: xs, acc, ps, h, hl => by
    rw [List.length_cons] at hl
    unfold forM
    rw [ixLast, mbk, lawKeptK h, mbk, mbk, mbk]
    rw [List.length_cons]
    unfold roundsV
    by_cases e : keptV ps n = ps
    · rw [if_pos e, if_pos (by simpa using e)]
    · rw [if_neg e, if_neg (by simpa using e), appK (by simp; omega), mbk]
      simp only
      rw [lawRoundsLoop xs (acc ++ [ps]) (keptV ps n) (kept_ok h) (by simp; omega)]
      simp
theorem lawRoundsK {ps : List Int} {n : Int} (h : OkP ps n) : k__law_rounds ps n = .ok (roundsV 60 ps n) := by
  unfold k__law_rounds kc__law_rounds
  rw [rngK (by decide) (by decide) (by decide) (by decide), mbk]
  have := lawRoundsLoop (δ := Empty) (ρ := List (List Int)) (rng 0 60) [] ps h (by rw [rng_len]; decide)
  rw [List.nil_append] at this
  rw [this, sqk, rng_len]
  rfl
theorem markRoundsLoop {δ ρ : Type} {n : Int} : ∀ (F f : Nat) (acc : List (List Int)) (ps : List Int), OkP ps n → ps.length ≤ F → ps.length ≤ f → acc.length + F ≤ 90000 → ∃ m,
    (whileM (fun (s2 : MV × List (List Int)) => mb (mb (k_Marks___len__ s2.1) lenO) fun v3 => mb (mb (ixM s2.2 (-1)) fun v4 => (.ok (v4.length : Int))) fun v5 => (.ok (decide (v3 < v5)))) (fun (s2 : MV × List (List Int)) =>
    mb (app s2.2 s2.1.2.1) fun rounds6 =>
    mb (k_mark_round s2.1) fun kept7 =>
    .ok (.nx (kept7, rounds6))) F (marksV n (keptV ps n), acc ++ [ps]) : M (Out (MV × List (List Int)) δ ρ)) = .ok (.nx (m, acc ++ roundsV f ps n))
  | 0, f, acc, ps, h, h1, _, _ => absurd (List.length_eq_zero_iff.mp (Nat.le_zero.mp h1)) h.ne
  | F + 1, 0, acc, ps, h, _, h1, _ => absurd (List.length_eq_zero_iff.mp (Nat.le_zero.mp h1)) h.ne
  | F + 1, f + 1, acc, ps, h, h1, h2, h3 => by
    have hk := kept_ok h
    have hb := hk.big
    unfold whileM roundsV
    simp only
    rw [markLenK, mbk, lenOK hb, mbk, ixLast, mbk, mbk, mbk]
    by_cases e : keptV ps n = ps
    · refine ⟨marksV n (keptV ps n), ?_⟩
      rw [if_neg (by rw [e]; simp), if_pos e]
    · have lt := kept_lt e
      obtain ⟨m, q⟩ := markRoundsLoop (δ := δ) (ρ := ρ) (n := n) F f (acc ++ [ps]) (keptV ps n) hk (by omega) (by omega) (by simp; omega)
      refine ⟨m, ?_⟩
      rw [if_pos (by simpa using lt), if_neg e, appK (by simp; omega), mbk, markRoundK hk, mbk]
      simp only
      rw [show (acc ++ [ps] ++ [(marksV n (keptV ps n)).2.1]) = acc ++ [ps] ++ [keptV ps n] from rfl, q]
      simp
theorem markRoundsK {ps : List Int} {n : Int} {f : Nat} (h : OkP ps n) (hf : ps.length ≤ f) (h6 : ps.length ≤ 80000) : k_mark_rounds (marksV n ps) = .ok (roundsV f ps n) := by
  unfold k_mark_rounds kc_mark_rounds
  have hb := h.big
  rw [markRoundK h, mbk]
  obtain ⟨m, q⟩ := markRoundsLoop (δ := Empty) (ρ := List (List Int)) (n := n) (ps.length + 1) f [] ps h (by omega) hf (by simp; omega)
  rw [List.nil_append] at q
  show fnV _ (sq (whileM _ _ (ps.length + 1) (marksV n (keptV ps n), [ps])) _) = _
  rw [q, sqk]
  rfl
theorem rounds_len (n : Int) : ∀ (f : Nat) (ps : List Int), (roundsV f ps n).length ≤ f + 1
  | 0, _ => by unfold roundsV; simp
  | f + 1, ps => by
    unfold roundsV
    split
    · simp
    · rw [List.length_cons]
      have := rounds_len n f (keptV ps n)
      omega
theorem rounds_mem {n : Int} : ∀ (f : Nat) (ps : List Int), ∀ q ∈ roundsV f ps n, q.length ≤ ps.length
  | 0, ps, q, hq => by
    unfold roundsV at hq
    rw [List.mem_singleton.mp hq]; omega
  | f + 1, ps, q, hq => by
    unfold roundsV at hq
    split at hq
    · rw [List.mem_singleton.mp hq]; omega
    · rcases List.mem_cons.mp hq with e | e
      · rw [e]; omega
      · have := rounds_mem f (keptV ps n) q e
        have := (kept_sub ps n).length_le
        omega
theorem roundsToldK {ps : List Int} {n : Int} {f : Nat} (h : OkP ps n) (hf : ps.length ≤ f) (h6 : f ≤ 80000) : k__law_rounds_told (marksV n ps) (roundsV f ps n) = .ok true := by
  unfold k__law_rounds_told kc__law_rounds_told
  have hb := h.big
  have hr := rounds_len n f ps
  rw [markRoundsK h hf (by omega), mbk, if_neg (by simp), rngK (by decide) (by decide) (by omega) (by omega), mbk, forM_pass, sqk]
  · rfl
  · intro k hk
    obtain ⟨h1, h2⟩ := mem_rng.mp hk
    obtain ⟨x, ex, ex'⟩ := ixK (xs := roundsV f ps n) h1 h2
    have hx := rounds_mem f ps x (List.mem_of_getElem? ex)
    rw [ex', mbk, mbk, numbersTK true (by omega)]
    simp [mbk]
/-! ### the same, step by step (to be computed) -/
def gapsF (n f : Int) : List Int → List Int
  | [] => []
  | [p] => [(f - p - 1) % n + 1]
  | p :: q :: r => ((q - p - 1) % n + 1) :: gapsF n f (q :: r)
theorem gapsF_get (n f : Int) : ∀ (ps : List Int) (i : Nat) (p : Int), ps[i]? = some p → (gapsF n f ps)[i]? = some ((((ps[i + 1]?).getD f) - p - 1) % n + 1)
  | [], i, p, h => by simp at h
  | [p], 0, q, h => by
    simp at h
    subst h
    rfl
  | [p], i + 1, q, h => by simp at h
  | p :: q :: r, 0, x, h => by
    simp at h
    subst h
    rfl
  | p :: q :: r, i + 1, x, h => by
    unfold gapsF
    rw [List.getElem?_cons_succ]
    have := gapsF_get n f (q :: r) i x (by simpa using h)
    rw [this]
    rfl
theorem gapsF_len (n f : Int) : ∀ ps : List Int, (gapsF n f ps).length = ps.length
  | [] => rfl
  | [p] => rfl
  | p :: q :: r => by
    unfold gapsF
    rw [List.length_cons, gapsF_len n f (q :: r)]
    rfl
theorem gapsF_eq (n f : Int) (ps : List Int) : gapsV (f :: ps) n = gapsF n f (f :: ps) := by
  apply List.ext_getElem?
  intro i
  by_cases h : i < (f :: ps).length
  · rw [gapsF_get n f (f :: ps) i _ (List.getElem?_eq_getElem h)]
    unfold gapsV
    rw [List.getElem?_map, rng_get (by omega), Option.map_some]
    unfold gapV sAt
    rw [List.getD_eq_getElem?_getD, List.getD_eq_getElem?_getD, show ((0 : Int) + (i : Int)).toNat = i by omega, List.getElem?_eq_getElem h, Option.getD_some]
    by_cases e : i + 1 < (f :: ps).length
    · rw [show (((0 : Int) + (i : Int) + 1) % ((f :: ps).length : Int)).toNat = i + 1 by rw [Int.emod_eq_of_lt (by omega) (by omega)]; omega]
      rw [List.getElem?_eq_getElem e, Option.getD_some, Option.getD_some]
    · have e' : (f :: ps).length = i + 1 := by omega
      rw [show (((0 : Int) + (i : Int) + 1) % ((f :: ps).length : Int)).toNat = 0 by rw [e', show (0 : Int) + (i : Int) + 1 = ((i + 1 : Nat) : Int) by omega, Int.emod_self]; rfl]
      rw [List.getElem?_eq_none (show (f :: ps).length ≤ i + 1 by omega)]
      rfl
  · rw [List.getElem?_eq_none (by rw [gapsV_len]; omega), List.getElem?_eq_none (by rw [gapsF_len]; omega)]
def keptF (ps : List Int) (n : Int) : List Int := match ps with
  | [] => []
  | f :: r => match gapsF n f (f :: r) with
    | [] => []
    | g :: gs => let m := gs.foldl max g
      ((List.zip (f :: r) (g :: gs)).filter fun x => decide (x.2 = m)).map fun x => x.1
theorem keptF_eq (ps : List Int) (n : Int) : keptV ps n = keptF ps n := by
  cases ps with
  | nil => rfl
  | cons f r =>
    have z := zip_gaps (f :: r) n
    have hm : maxG (f :: r) n = match gapsF n f (f :: r) with
      | [] => 0
      | g :: gs => gs.foldl max g := by unfold maxG; rw [gapsF_eq]
    rw [gapsF_eq] at z
    unfold keptF
    cases e : gapsF n f (f :: r) with
    | nil =>
      have := gapsF_len n f (f :: r)
      rw [e] at this
      cases this
    | cons g gs =>
      rw [e] at z hm
      simp only at hm
      simp only [e]
      rw [z, List.filter_map, List.map_map, ← hm]
      rfl
def roundsF : Nat → List Int → Int → List (List Int)
  | 0, ps, _ => [ps]
  | f + 1, ps, n => let q := keptF ps n
    if q = ps then [ps] else ps :: roundsF f q n
theorem roundsF_eq (n : Int) : ∀ (f : Nat) (ps : List Int), roundsV f ps n = roundsF f ps n
  | 0, _ => rfl
  | f + 1, ps => by
    unfold roundsV roundsF
    simp only
    rw [keptF_eq, roundsF_eq n f]
end DL

namespace DL
open PySem L2
/-! ## the rounds of marks take at least so many places -/
/-- the way from p on to x -/
def dV (n p x : Int) : Int := if p < x then x - p else x - p + n
theorem mod_dV {n p x : Int} (hp : 0 ≤ p ∧ p < n) (hx : 0 ≤ x ∧ x < n) : (x - p - 1) % n + 1 = dV n p x := by
  unfold dV
  split
  · rw [Int.emod_eq_of_lt (by omega) (by omega)]; omega
  · rw [← Int.add_emod_right, Int.emod_eq_of_lt (by omega) (by omega)]; omega
theorem asc_lt {ps : List Int} (h : ps.Pairwise (· < ·)) {i j : Int} (h0 : 0 ≤ i) (h1 : i < j) (h2 : j < ps.length) : sAt ps i < sAt ps j := by
  unfold sAt
  have hi : i.toNat < ps.length := by omega
  have hj : j.toNat < ps.length := by omega
  rw [List.getD_eq_getElem?_getD, List.getD_eq_getElem?_getD, List.getElem?_eq_getElem hi, List.getElem?_eq_getElem hj]
  exact List.pairwise_iff_getElem.mp h i.toNat j.toNat hi hj (by omega)
theorem mem_sAt {ps : List Int} {x : Int} (h : x ∈ ps) : ∃ j : Int, 0 ≤ j ∧ j < ps.length ∧ x = sAt ps j := by
  obtain ⟨i, hi, e⟩ := List.getElem_of_mem h
  refine ⟨(i : Int), by omega, by omega, ?_⟩
  unfold sAt
  rw [List.getD_eq_getElem?_getD, show ((i : Int)).toNat = i by omega, List.getElem?_eq_getElem hi]
  exact e.symm
theorem sAt_inj {ps : List Int} (h : ps.Pairwise (· < ·)) {i j : Int} (h0 : 0 ≤ i) (h1 : i < ps.length) (h2 : 0 ≤ j) (h3 : j < ps.length) (e : sAt ps i = sAt ps j) : i = j := by
  rcases Int.lt_trichotomy i j with q | q | q
  · have := asc_lt h h0 q h3; omega
  · exact q
  · have := asc_lt h h2 q h1; omega
/-- the next index, round the ring -/
def nxI (ps : List Int) (k : Int) : Int := (k + 1) % ps.length
theorem nx_rg {ps : List Int} {k : Int} (h0 : 0 ≤ k) (h1 : k < ps.length) : 0 ≤ nxI ps k ∧ nxI ps k < ps.length :=
  ⟨Int.emod_nonneg _ (by omega), Int.emod_lt_of_pos _ (by omega)⟩
theorem nx_if {ps : List Int} {k : Int} (h0 : 0 ≤ k) (h1 : k < ps.length) : nxI ps k = if k + 1 < ps.length then k + 1 else 0 := by
  unfold nxI
  split
  · exact Int.emod_eq_of_lt (by omega) (by omega)
  · rw [show k + 1 = (ps.length : Int) by omega, Int.emod_self]
theorem gap_dV {ps : List Int} {n k : Int} (h : OkP ps n) (h0 : 0 ≤ k) (h1 : k < ps.length) : gapV ps n k = dV n (sAt ps k) (sAt ps (nxI ps k)) :=
  mod_dV (h.rg _ (sAt_mem h0 h1)) (h.rg _ (sAt_mem (nx_rg h0 h1).1 (nx_rg h0 h1).2))
/-- no mark is nearer than the next one -/
theorem gap_least {ps : List Int} {n k x : Int} (h : OkP ps n) (h0 : 0 ≤ k) (h1 : k < ps.length) (hx : x ∈ ps) : gapV ps n k ≤ dV n (sAt ps k) x := by
  rw [gap_dV h h0 h1]
  obtain ⟨j, j0, j1, rfl⟩ := mem_sAt hx
  have rk := h.rg _ (sAt_mem h0 h1)
  have rj := h.rg _ (sAt_mem j0 j1)
  have rn := h.rg _ (sAt_mem (nx_rg h0 h1).1 (nx_rg h0 h1).2)
  have le : ∀ {a b : Int}, 0 ≤ a → a ≤ b → b < ps.length → sAt ps a ≤ sAt ps b := fun {a b} a0 ab bl => by
    rcases Int.lt_or_eq_of_le ab with q | q
    · exact Int.le_of_lt (asc_lt h.asc a0 q bl)
    · rw [q]; exact Int.le_refl _
  rw [nx_if h0 h1] at rn ⊢
  by_cases c : k + 1 < ps.length
  · rw [if_pos c] at rn ⊢
    have s := asc_lt h.asc h0 (show k < k + 1 by omega) c
    unfold dV
    rw [if_pos s]
    by_cases q : k < j
    · have := le (show 0 ≤ k + 1 by omega) (show k + 1 ≤ j by omega) j1
      rw [if_pos (by omega)]; omega
    · have := le j0 (show j ≤ k by omega) h1
      rw [if_neg (by omega)]; omega
  · rw [if_neg c] at rn ⊢
    have a := le (Int.le_refl 0) h0 h1
    have b := le (Int.le_refl 0) j0 j1
    have d := le j0 (show j ≤ k by omega) h1
    unfold dV
    rw [if_neg (by omega), if_neg (by omega)]
    omega
theorem dV_add {n p r q : Int} (hp : 0 ≤ p ∧ p < n) (hr : 0 ≤ r ∧ r < n) (hq : 0 ≤ q ∧ q < n) (h : dV n p r ≤ dV n p q) (ne : r ≠ q) : dV n p q = dV n p r + dV n r q := by
  unfold dV at h ⊢
  by_cases a : p < r <;> by_cases b : p < q <;> by_cases c : r < q <;> simp only [a, b, c, if_true, if_false] at h ⊢ <;> omega
theorem mem_kept {ps : List Int} {n x : Int} : x ∈ keptV ps n ↔ ∃ k : Int, 0 ≤ k ∧ k < ps.length ∧ gapV ps n k = maxG ps n ∧ x = sAt ps k := by
  unfold keptV
  constructor
  · intro h
    obtain ⟨k, hk, e⟩ := List.mem_map.mp h
    obtain ⟨a, b⟩ := List.mem_filter.mp hk
    exact ⟨k, (mem_rng.mp a).1, (mem_rng.mp a).2, by simpa using b, e.symm⟩
  · rintro ⟨k, h0, h1, e, rfl⟩
    exact List.mem_map.mpr ⟨k, List.mem_filter.mpr ⟨mem_rng.mpr ⟨h0, h1⟩, by simpa using e⟩, rfl⟩
theorem mem_gaps {ps : List Int} {n g : Int} : g ∈ gapsV ps n ↔ ∃ k : Int, 0 ≤ k ∧ k < ps.length ∧ g = gapV ps n k := by
  unfold gapsV
  constructor
  · intro h
    obtain ⟨k, hk, e⟩ := List.mem_map.mp h
    exact ⟨k, (mem_rng.mp hk).1, (mem_rng.mp hk).2, e.symm⟩
  · rintro ⟨k, h0, h1, rfl⟩
    exact List.mem_map.mpr ⟨k, mem_rng.mpr ⟨h0, h1⟩, rfl⟩
/-- all gaps after a round are at least the longest one before -/
theorem kept_least {ps : List Int} {n g : Int} (h : OkP ps n) (hg : g ∈ gapsV (keptV ps n) n) : maxG ps n ≤ g := by
  have hk := kept_ok h
  obtain ⟨j, j0, j1, rfl⟩ := mem_gaps.mp hg
  rw [gap_dV hk j0 j1]
  obtain ⟨k, k0, k1, e, e2⟩ := mem_kept.mp (sAt_mem j0 j1)
  have q := (kept_sub ps n).subset (sAt_mem (nx_rg j0 j1).1 (nx_rg j0 j1).2)
  rw [e2, ← e]
  exact gap_least h k0 k1 q
theorem all_kept {ps : List Int} {n : Int} (h : ∀ k : Int, 0 ≤ k → k < ps.length → gapV ps n k = maxG ps n) : keptV ps n = ps := by
  unfold keptV
  rw [List.filter_eq_self.mpr fun k hk => by simpa using h k (mem_rng.mp hk).1 (mem_rng.mp hk).2, map_rng]
/-- where something goes, a mark that stays stands before one that goes -/
theorem kept_edge {ps : List Int} {n : Int} (h : OkP ps n) (ne : keptV ps n ≠ ps) : ∃ k : Int, 0 ≤ k ∧ k < ps.length ∧ gapV ps n k = maxG ps n ∧ gapV ps n (nxI ps k) ≠ maxG ps n := by
  apply Classical.byContradiction
  intro no
  have st : ∀ k : Int, 0 ≤ k → k < (ps.length : Int) → gapV ps n k = maxG ps n → gapV ps n (nxI ps k) = maxG ps n := fun k a b c => Classical.byContradiction fun d => no ⟨k, a, b, c, d⟩
  obtain ⟨_, m, _⟩ := maxGK (n := n) h.ne
  obtain ⟨k0, a0, a1, e⟩ := mem_gaps.mp m
  have up : ∀ i : Nat, gapV ps n ((k0 + i) % ps.length) = maxG ps n := by
    intro i
    induction i with
    | zero => rw [show k0 + ((0 : Nat) : Int) = k0 by omega, Int.emod_eq_of_lt a0 a1, ← e]
    | succ i ih =>
      have := st _ (Int.emod_nonneg _ (by omega)) (Int.emod_lt_of_pos _ (by omega)) ih
      unfold nxI at this
      rw [Int.emod_add_emod] at this
      rwa [show k0 + ((i + 1 : Nat) : Int) = k0 + (i : Int) + 1 by omega]
  apply ne
  refine all_kept fun k b0 b1 => ?_
  have := up (k - k0 + ps.length).toNat
  rwa [show k0 + (((k - k0 + ps.length).toNat : Nat) : Int) = k + ps.length by omega, Int.add_emod_right, Int.emod_eq_of_lt b0 b1] at this
theorem kept_grows {ps : List Int} {n m : Int} (h : OkP ps n) (ne : keptV ps n ≠ ps) (hm : ∀ g ∈ gapsV ps n, m ≤ g) : maxG ps n + m ≤ maxG (keptV ps n) n := by
  have hk := kept_ok h
  obtain ⟨k, k0, k1, e, e2⟩ := kept_edge h ne
  obtain ⟨j, j0, j1, ej⟩ := mem_sAt (mem_kept.mpr ⟨k, k0, k1, e, rfl⟩)
  have nk := nx_rg k0 k1
  have nj := nx_rg j0 j1
  refine Int.le_trans ?_ ((maxGK hk.ne).2.2 _ (mem_gaps.mpr ⟨j, j0, j1, rfl⟩))
  rw [gap_dV hk j0 j1, ← ej]
  have qk := sAt_mem nj.1 nj.2
  have qp := (kept_sub ps n).subset qk
  have rp := h.rg _ (sAt_mem k0 k1)
  have rr := h.rg _ (sAt_mem nk.1 nk.2)
  have rq := h.rg _ qp
  have l1 := gap_least h k0 k1 qp
  rw [gap_dV h k0 k1] at l1 e
  rw [dV_add rp rr rq l1 (fun eq => by
    obtain ⟨k2, c0, c1, c2, c3⟩ := mem_kept.mp qk
    rw [← eq] at c3
    have := sAt_inj h.asc nk.1 nk.2 c0 c1 c3
    rw [← this] at c2
    exact e2 c2), e]
  have l2 := gap_least h nk.1 nk.2 qp
  have l3 := hm _ (mem_gaps.mpr ⟨nxI ps k, nk.1, nk.2, rfl⟩)
  omega
theorem max_two {ps : List Int} {n : Int} (h : OkP ps n) (ne : keptV ps n ≠ ps) : 2 ≤ maxG ps n := by
  apply Classical.byContradiction
  intro no
  apply ne
  refine all_kept fun k k0 k1 => ?_
  have a := gap_pos (ps := ps) (k := k) h.pos
  have b := (maxGK (n := n) h.ne).2.2 _ (mem_gaps.mpr ⟨k, k0, k1, rfl⟩)
  omega
theorem max_le {ps : List Int} {n : Int} (h : OkP ps n) : maxG ps n ≤ n := by
  obtain ⟨k, _, _, e⟩ := mem_gaps.mp (maxGK (n := n) h.ne).2.1
  rw [e]
  exact (gap_pos h.pos).2
def kc__law_places (cell : Int) (size : Int) : M (Out Unit Empty (List Int)) := mb (k__law_draws cell [2, 6, size]) fun head1 =>
    mb (mb (ixM head1 0) fun v2 => (.ok (decide (v2 = 1)))) fun v3 => if v3 = true then mb (mb (mb (mb (mb (repM [size] 6) fun v4 => catM [2, 6, size] v4) fun v5 => k__law_draws cell v5) fun v6 => mb (mb (mb (ixM head1 1) fun v7 => (.ok (4 + v7))) fun v8 => (.ok (some v8))) fun v9 => (.ok (cut v6 (some 3) v9))) fun v10 => sortSet v10) fun v11 => .ok (.rt v11)
    else mb (mb (mb (mb (repM [2] size) fun v12 => catM [2, 6, size] v12) fun v13 => k__law_draws cell v13) fun v14 => (.ok (cut v14 (some 3) none))) fun chosen15 =>
    mb (mb (rngM 0 size) fun v16 => lcM (fun place17 => mb (mb (ixM chosen15 place17) fun v18 => (.ok (decide (v18 = 1)))) fun v19 => if v19 = true then .ok true else mb (ixM head1 2) fun v20 => (.ok (decide (place17 = v20)))) (fun place17 => (.ok place17)) v16) fun v21 => .ok (.rt v21)
def k__law_places (cell : Int) (size : Int) : M (List Int) := fnV .no (kc__law_places cell size)
def kc__law_golden (number : Int) : M (Out Unit Empty (Int × (List Int))) := mb (rngM 0 number) fun v1 => sq (forM (fun (step2 : Int) (s3 : PySem.Str × PySem.Str) =>
    mb (mb (catS s3.2 s3.1) fun v4 => (.ok (s3.2, v4))) fun u5 =>
    .ok (.nx (u5.1, u5.2))) v1 (("0" : PySem.Str), ("10" : PySem.Str))) fun s6 =>
    mb (mb (lenS s6.2) fun v7 => mb (mb (mb (lenS s6.2) fun v8 => rngM 0 v8) fun v9 => lcM (fun k10 => if (decide (k10 = 0)) = true then .ok true else mb (ixC s6.2 (k10 - 1)) fun v11 => (.ok (decide (v11 = ("0" : PySem.Str))))) (fun k10 => (.ok k10)) v9) fun v12 => (.ok (v7, v12))) fun v13 => .ok (.rt v13)
def k__law_golden (number : Int) : M (Int × (List Int)) := fnV .no (kc__law_golden number)
def kc__law_least_size (number : Int) : M (Out Unit Empty Int) := mb (rngM 0 (number + 1)) fun v1 => sq (forM (fun (step2 : Int) (s3 : Int × Int) =>
    (fun (low4 : Int) (high5 : Int) =>
    .ok (.nx (low4, high5))) s3.2 (s3.1 + s3.2)) v1 (1, 1)) fun s6 =>
    .ok (.rt s6.2)
def k__law_least_size (number : Int) : M Int := fnV .no (kc__law_least_size number)

/-! ### the rounds as they come -/
def itK (n : Int) : Nat → List Int → List Int
  | 0, ps => ps
  | k + 1, ps => itK n k (keptV ps n)
theorem itK_next (n : Int) : ∀ (k : Nat) (ps : List Int), itK n (k + 1) ps = keptV (itK n k ps) n
  | 0, _ => rfl
  | k + 1, ps => itK_next n k (keptV ps n)
theorem itK_ok {n : Int} : ∀ (k : Nat) {ps : List Int}, OkP ps n → OkP (itK n k ps) n
  | 0, _, h => h
  | k + 1, _, h => itK_ok k (kept_ok h)
theorem itK_len {n : Int} : ∀ (k : Nat) (ps : List Int), (itK n k ps).length ≤ ps.length
  | 0, _ => Nat.le_refl _
  | k + 1, ps => Nat.le_trans (itK_len k _) (kept_sub ps n).length_le
theorem rounds_ne (n : Int) (f : Nat) (ps : List Int) : roundsV f ps n ≠ [] := by
  cases f with
  | zero => unfold roundsV; simp
  | succ f => unfold roundsV; split <;> simp
theorem rounds_head (n : Int) (f : Nat) (ps : List Int) : (roundsV f ps n)[0]? = some ps := by
  cases f with
  | zero => unfold roundsV; rfl
  | succ f => unfold roundsV; split <;> rfl
theorem rounds_drop {n : Int} : ∀ (f k : Nat) (ps : List Int), k < (roundsV f ps n).length → k ≤ f ∧ (roundsV f ps n).drop k = roundsV (f - k) (itK n k ps) n
  | _, 0, _, _ => ⟨Nat.zero_le _, rfl⟩
  | 0, k + 1, ps, h => by unfold roundsV at h; simp at h
  | f + 1, k + 1, ps, h => by
    rw [show roundsV (f + 1) ps n = if keptV ps n = ps then [ps] else ps :: roundsV f (keptV ps n) n from rfl] at h ⊢
    split at h
    · simp at h
    · rename_i e
      rw [if_neg e, List.drop_succ_cons]
      rw [List.length_cons] at h
      have h' : k < (roundsV f (keptV ps n) n).length := by omega
      obtain ⟨a, b⟩ := rounds_drop f k (keptV ps n) h'
      rw [show f + 1 - (k + 1) = f - k by omega]
      exact ⟨by omega, b⟩
theorem rounds_at {n : Int} {f k : Nat} {ps : List Int} (h : k < (roundsV f ps n).length) : (roundsV f ps n)[k]? = some (itK n k ps) := by
  have d := (rounds_drop f k ps h).2
  have := congrArg (fun l => l[0]?) d
  simp only [List.getElem?_drop, Nat.add_zero] at this
  rw [this, rounds_head]
/-- nothing changes any more -/
theorem rounds_rest {n : Int} : ∀ (f : Nat) (ps : List Int), OkP ps n → ps.length ≤ f → keptV (itK n ((roundsV f ps n).length - 1) ps) n = itK n ((roundsV f ps n).length - 1) ps
  | 0, ps, h, hl => absurd (List.length_eq_zero_iff.mp (Nat.le_zero.mp hl)) h.ne
  | f + 1, ps, h, hl => by
    unfold roundsV
    split
    · rename_i e
      exact e
    · rename_i e
      have lt := kept_lt e
      have := rounds_rest f (keptV ps n) (kept_ok h) (by omega)
      have ne := List.length_pos_iff.mpr (rounds_ne n f (keptV ps n))
      rw [List.length_cons, show (roundsV f (keptV ps n) n).length + 1 - 1 = ((roundsV f (keptV ps n) n).length - 1) + 1 by omega]
      exact this
/-! ### Fibonacci's numbers -/
def stepF (p : Int × Int) : Int × Int := (p.2, p.1 + p.2)
def fibP : Nat → Int × Int
  | 0 => (1, 1)
  | k + 1 => stepF (fibP k)
theorem rounds_size {n : Int} : ∀ (f i : Nat) (ps : List Int), OkP ps n → (∀ g ∈ gapsV ps n, (fibP (i + 1)).1 ≤ g) → (fibP (i + 1)).2 ≤ maxG ps n → (fibP (i + (roundsV f ps n).length)).2 ≤ n
  | 0, i, ps, h, _, h2 => by unfold roundsV; exact Int.le_trans h2 (max_le h)
  | f + 1, i, ps, h, h1, h2 => by
    unfold roundsV
    split
    · exact Int.le_trans h2 (max_le h)
    · rename_i e
      have := rounds_size f (i + 1) (keptV ps n) (kept_ok h) (fun g hg => Int.le_trans h2 (kept_least h hg)) (by
        have := kept_grows h e h1
        show (fibP (i + 1)).1 + (fibP (i + 1)).2 ≤ _
        omega)
      rw [List.length_cons, show i + ((roundsV f (keptV ps n) n).length + 1) = i + 1 + (roundsV f (keptV ps n) n).length by omega]
      exact this
theorem rounds_big {n : Int} {f : Nat} {ps : List Int} (h : OkP ps n) (h2 : 2 ≤ (roundsV f ps n).length) : (fibP (roundsV f ps n).length).2 ≤ n := by
  cases f with
  | zero => unfold roundsV at h2; simp at h2
  | succ f =>
    have e : keptV ps n ≠ ps := fun e => by unfold roundsV at h2; rw [if_pos e] at h2; simp at h2
    have := rounds_size (f + 1) 0 ps h (fun g hg => by
      obtain ⟨k, _, _, rfl⟩ := mem_gaps.mp hg
      exact (gap_pos h.pos).1) (max_two h e)
    rwa [Nat.zero_add] at this
theorem fib_fold : ∀ (k : Nat) (xs : List Int) (j : Nat), xs.length = k → xs.foldl (fun s _ => stepF s) (fibP j) = fibP (j + k)
  | 0, [], _, _ => rfl
  | k + 1, x :: xs, j, h => by
    rw [List.foldl_cons]
    have := fib_fold k xs (j + 1) (by simpa using h)
    rw [show j + (k + 1) = j + 1 + k by omega]
    exact this
theorem leastSizeK {k : Nat} (h : k ≤ 1000) : k__law_least_size (k : Int) = .ok (fibP (k + 1)).2 := by
  unfold k__law_least_size kc__law_least_size
  rw [rngK (by decide) (by decide) (by omega) (by omega), mbk]
  rw [(forM_all (f := fun (step2 : Int) (s3 : Int × Int) => (fun (low4 : Int) (high5 : Int) => (.ok (.nx (low4, high5)) : M (Out (Int × Int) (Int × Int) Int))) s3.2 (s3.1 + s3.2)) (fun s (_ : Int) => stepF s) (fun _ => True) (xs := rng 0 ((k : Int) + 1)) (s0 := (1, 1)) trivial (fun x _ s _ => ⟨rfl, trivial⟩)).1, sqk]
  rw [show ((1 : Int), (1 : Int)) = fibP 0 from rfl, fib_fold (k + 1) _ 0 (by rw [rng_len]; omega), Nat.zero_add]
  rfl
/-! ### drawn places -/
theorem cut_mid {α : Type} (xs : List α) {a : Nat} (z : Int) (h1 : (a : Int) ≤ z) (h2 : z ≤ xs.length) : cut xs (some (a : Int)) (some z) = (xs.drop a).take (z.toNat - a) := by
  unfold cut
  rw [show z = ((z.toNat : Nat) : Int) by omega, HT.sIx_nat xs.length 0 a, HT.sIx_nat xs.length xs.length z.toNat, Nat.min_eq_left (by omega), Nat.min_eq_left (by omega), Int.toNat_natCast]
theorem filter_okP {n : Int} {q : Int → Bool} {x : Int} (hn : n ≤ 80000) (hx : 0 ≤ x ∧ x < n) (hq : q x = true) : OkP ((rng 0 n).filter q) n := by
  refine ⟨List.ne_nil_of_mem (List.mem_filter.mpr ⟨mem_rng.mpr hx, hq⟩), (rng_sorted n).filter _, fun p hp => mem_rng.mp (List.mem_filter.mp hp).1, ?_⟩
  refine Nat.le_trans (List.length_filter_le _ _) ?_
  rw [rng_len]; omega
theorem placesK (cell : Int) {n : Int} (h1 : 1 ≤ n) (h2 : n ≤ 70) : ∃ ps, k__law_places cell n = .ok ps ∧ OkP ps n := by
  unfold k__law_places kc__law_places
  obtain ⟨hd, es, dr⟩ := drawsK cell (sizes := [2, 6, n]) (by simp) (by
    intro s hs
    simp only [List.mem_cons, List.not_mem_nil, or_false] at hs
    rcases hs with rfl | rfl | rfl <;> omega)
  rw [es, mbk]
  obtain ⟨d0, x0, _, l0, u0⟩ := dr.at 0 rfl
  obtain ⟨d1, x1, _, l1, u1⟩ := dr.at 1 rfl
  obtain ⟨d2, x2, _, l2, u2⟩ := dr.at 2 rfl
  have y0 : ixM hd 0 = .ok d0 := x0
  have y1 : ixM hd 1 = .ok d1 := x1
  have y2 : ixM hd 2 = .ok d2 := x2
  rw [y0, y1, y2, mbk, mbk]
  by_cases c : d0 = 1
  · rw [if_pos (by simpa using c), rep1 (by omega) (by omega), mbk, catK (by simp), mbk]
    obtain ⟨ds, es2, dr2⟩ := drawsK cell (sizes := [2, 6, n] ++ List.replicate (6 : Int).toNat n) (by simp) (by
      intro s hs
      rcases List.mem_append.mp hs with hs | hs
      · simp only [List.mem_cons, List.not_mem_nil, or_false] at hs
        rcases hs with rfl | rfl | rfl <;> omega
      · rw [(List.mem_replicate.mp hs).2]; omega)
    have dl : ds.length = 9 := dr2.1
    rw [es2]
    simp only [mbk]
    have dr3 := ((dr2.drop).drop).drop
    have hc := cut_mid (a := 3) ds (4 + d1) (by omega) (by omega)
    have hr : ∀ p ∈ cut ds (some 3) (some (4 + d1)), 0 ≤ p ∧ p < n := by
      intro p hp
      rw [show cut ds (some 3) (some (4 + d1)) = (ds.drop 3).take ((4 + d1).toNat - 3) from hc] at hp
      obtain ⟨s, hs, q⟩ := dr3.mem (d := p) (by simpa [List.drop_drop] using List.mem_of_mem_take hp)
      rw [(List.mem_replicate.mp hs).2] at q
      exact q
    have hl : (cut ds (some 3) (some (4 + d1))).length = (1 + d1).toNat := by
      rw [show cut ds (some 3) (some (4 + d1)) = (ds.drop 3).take ((4 + d1).toNat - 3) from hc, List.length_take, List.length_drop]
      omega
    have hs : sortSet (cut ds (some 3) (some (4 + d1))) = .ok (usort (cut ds (some 3) (some (4 + d1)))) := if_pos (by omega)
    rw [hs, mbk]
    refine ⟨_, rfl, ?_⟩
    cases e : cut ds (some 3) (some (4 + d1)) with
    | nil => rw [e] at hl; simp at hl; omega
    | cons x xs =>
      rw [e] at hr
      rw [usort_rng hr]
      exact filter_okP (x := x) (by omega) (hr x List.mem_cons_self) (by simp)
  · rw [if_neg (by simpa using c), rep1 (by omega) (by omega), mbk, catK (by simp; omega), mbk]
    obtain ⟨ds, es2, dr2⟩ := drawsK cell (sizes := [2, 6, n] ++ List.replicate n.toNat 2) (by simp; omega) (by
      intro s hs
      rcases List.mem_append.mp hs with hs | hs
      · simp only [List.mem_cons, List.not_mem_nil, or_false] at hs
        rcases hs with rfl | rfl | rfl <;> omega
      · rw [(List.mem_replicate.mp hs).2]; omega)
    have dl : ds.length = 3 + n.toNat := by rw [dr2.1]; simp; omega
    rw [es2]
    simp only [mbk]
    have hc : cut ds (some 3) none = ds.drop 3 := cutN ds 3
    rw [hc, rngK (by decide) (by decide) (by omega) (by omega), mbk, lcK (fun k => decide (sAt (ds.drop 3) k = 1) || decide (k = d2)) (fun k => k) (by rw [rng_len]; omega) (fun k hk => by
      obtain ⟨a, b⟩ := mem_rng.mp hk
      rw [ixS a (by rw [List.length_drop]; omega), mbk, mbk]
      by_cases q : sAt (List.drop 3 ds) k = 1
      · rw [if_pos (by simpa using q)]; simp [q]
      · rw [if_neg (by simpa using q)]; simp [q]) (fun _ _ => rfl), mbk, List.map_id']
    exact ⟨_, rfl, filter_okP (x := d2) (by omega) ⟨l2, u2⟩ (by simp)⟩
/-! ### golden words -/
def ascC : List Int → Bool
  | [] => true
  | [_] => true
  | x :: y :: r => decide (x < y) && ascC (y :: r)
theorem ascC_of : ∀ {xs : List Int}, ascC xs = true → xs.Pairwise (· < ·)
  | [], _ => List.Pairwise.nil
  | [_], _ => by simp
  | x :: y :: r, h => by
    unfold ascC at h
    rw [Bool.and_eq_true, decide_eq_true_iff] at h
    have ih := ascC_of h.2
    refine List.pairwise_cons.mpr ⟨fun z hz => ?_, ih⟩
    rcases List.mem_cons.mp hz with e | e
    · rw [e]; exact h.1
    · exact Int.lt_trans h.1 ((List.pairwise_cons.mp ih).1 z e)
def goldC (m : M (Int × List Int)) : Bool := match m with
  | .ok (n, ps) => decide (n ≤ 60) && decide (ps ≠ []) && ascC ps && (ps.all fun p => decide (0 ≤ p) && decide (p < n)) && decide (ps.length ≤ 60)
  | _ => false
theorem golden_all : (List.range 7).all (fun k => goldC (k__law_golden ((k : Int) + 1))) = true := by decide +kernel
theorem goldenK {k : Int} (h1 : 1 ≤ k) (h2 : k ≤ 7) : ∃ n ps, k__law_golden k = .ok (n, ps) ∧ OkP ps n ∧ n ≤ 60 := by
  have q := List.all_eq_true.mp golden_all (k - 1).toNat (List.mem_range.mpr (by omega))
  rw [show (((k - 1).toNat : Nat) : Int) + 1 = k by omega] at q
  unfold goldC at q
  split at q
  · rename_i n ps e
    simp only [Bool.and_eq_true, decide_eq_true_iff, List.all_eq_true] at q
    obtain ⟨⟨⟨⟨a, b⟩, c⟩, d⟩, f⟩ := q
    exact ⟨n, ps, e, ⟨b, ascC_of c, d, by omega⟩, a⟩
  · simp at q
theorem okP_len {ps : List Int} {n : Int} (h : OkP ps n) : (ps.length : Int) ≤ n := by
  have e : usort ps = ps := (usort_eq h.asc fun k => by simp).symm
  have := usort_len h.rg
  rw [e] at this
  have := h.pos
  omega
end DL

namespace DL
open PySem L2
/-! ## where the rounds take as many places as they must -/
theorem dV_inv {n p x : Int} (hp : 0 ≤ p ∧ p < n) (hx : 0 ≤ x ∧ x < n) : (p + dV n p x) % n = x := by
  unfold dV
  split
  · rw [show p + (x - p) = x by omega, Int.emod_eq_of_lt hx.1 hx.2]
  · rw [show p + (x - p + n) = x + n by omega, Int.add_emod_right, Int.emod_eq_of_lt hx.1 hx.2]
theorem dV_pos {n p x : Int} (hp : 0 ≤ p ∧ p < n) (hx : 0 ≤ x ∧ x < n) : 1 ≤ dV n p x := by
  unfold dV; split <;> omega
theorem exists_min (f : Int → Int) : ∀ {l : List Int}, l ≠ [] → ∃ q ∈ l, ∀ y ∈ l, f q ≤ f y
  | [], h => absurd rfl h
  | [x], _ => ⟨x, List.mem_cons_self, fun y hy => by rw [List.mem_singleton.mp hy]; exact Int.le_refl _⟩
  | x :: y :: r, _ => by
    obtain ⟨q, hq, hm⟩ := exists_min f (l := y :: r) (by simp)
    by_cases c : f x ≤ f q
    · refine ⟨x, List.mem_cons_self, fun z hz => ?_⟩
      rcases List.mem_cons.mp hz with e | e
      · rw [e]; exact Int.le_refl _
      · exact Int.le_trans c (hm z e)
    · refine ⟨q, List.mem_cons_of_mem _ hq, fun z hz => ?_⟩
      rcases List.mem_cons.mp hz with e | e
      · rw [e]; omega
      · exact hm z e
theorem unkept {ps : List Int} {n a x : Int} (h : OkP ps n) (ha : ∀ g ∈ gapsV ps n, a ≤ g) (hM : maxG (keptV ps n) n ≤ maxG ps n + a) : x ∈ ps ↔ x ∈ keptV ps n ∨ ∃ q ∈ keptV ps n, x = (q + maxG ps n) % n := by
  have hk := kept_ok h
  constructor
  · intro hx
    by_cases c : x ∈ keptV ps n
    · exact .inl c
    refine .inr ?_
    obtain ⟨q, hq, hm⟩ := exists_min (fun q => dV n q x) hk.ne
    refine ⟨q, hq, ?_⟩
    obtain ⟨j, j0, j1, ej⟩ := mem_sAt hq
    have nj := nx_rg j0 j1
    have hq' := sAt_mem nj.1 nj.2
    have rq := hk.rg _ hq
    have rq' := hk.rg _ hq'
    have rx := h.rg _ hx
    have gj := gap_dV hk j0 j1
    rw [← ej] at gj
    have gm := (maxGK (n := n) hk.ne).2.2 _ (mem_gaps.mpr ⟨j, j0, j1, rfl⟩)
    obtain ⟨k, k0, k1, e1, e2⟩ := mem_kept.mp hq
    have d1 := gap_least h k0 k1 hx
    rw [← e2, e1] at d1
    have nx' : sAt (keptV ps n) (nxI (keptV ps n) j) ≠ x := fun e => c (e ▸ hq')
    have lt : dV n q x < dV n q (sAt (keptV ps n) (nxI (keptV ps n) j)) := by
      apply Classical.byContradiction
      intro no
      have := dV_add rq rq' rx (by omega) nx'
      have m2 : dV n q x ≤ dV n (sAt (keptV ps n) (nxI (keptV ps n) j)) x := hm _ hq'
      have := dV_pos rq rq'
      omega
    have ad := dV_add rq rx rq' (by omega) (fun e => nx' e.symm)
    obtain ⟨i, i0, i1, ei⟩ := mem_sAt hx
    have l2 := gap_least h i0 i1 ((kept_sub ps n).subset hq')
    rw [← ei] at l2
    have l3 := ha _ (mem_gaps.mpr ⟨i, i0, i1, rfl⟩)
    have : dV n q x = maxG ps n := by omega
    rw [← this, dV_inv rq rx]
  · rintro (c | ⟨q, hq, rfl⟩)
    · exact (kept_sub ps n).subset c
    · obtain ⟨k, k0, k1, e1, e2⟩ := mem_kept.mp hq
      have nk := nx_rg k0 k1
      have hx := sAt_mem nk.1 nk.2
      rw [gap_dV h k0 k1, ← e2] at e1
      rw [← e1, dV_inv (hk.rg _ hq) (h.rg _ hx)]
      exact hx
/-- the marks before a round, told by those after it -/
def extV (b : Int) (qs : List Int) (n : Int) : List Int := (rng 0 n).filter fun x => decide (x ∈ qs) || decide ((x - b) % n ∈ qs)
theorem self_filter {ps : List Int} {n : Int} (h : OkP ps n) : ps = (rng 0 n).filter fun x => decide (x ∈ ps) := by
  have e : ps = usort ps := usort_eq h.asc fun k => by simp
  rw [usort_rng h.rg] at e
  exact e
theorem unkept_ext {ps : List Int} {n a : Int} (h : OkP ps n) (ha : ∀ g ∈ gapsV ps n, a ≤ g) (hM : maxG (keptV ps n) n ≤ maxG ps n + a) : ps = extV (maxG ps n) (keptV ps n) n := by
  have hk := kept_ok h
  conv => lhs; rw [self_filter h]
  unfold extV
  refine List.filter_congr fun x hx => ?_
  have rx := mem_rng.mp hx
  rw [Bool.eq_iff_iff, Bool.or_eq_true, decide_eq_true_iff, decide_eq_true_iff, decide_eq_true_iff, unkept h ha hM]
  refine or_congr Iff.rfl ⟨?_, fun q => ⟨_, q, ?_⟩⟩
  · rintro ⟨q, hq, rfl⟩
    have rq := hk.rg _ hq
    rwa [Int.emod_sub_emod, show q + maxG ps n - maxG ps n = q by omega, Int.emod_eq_of_lt rq.1 rq.2]
  · rw [Int.emod_add_emod, show x - maxG ps n + maxG ps n = x by omega, Int.emod_eq_of_lt rx.1 rx.2]
theorem rounds_changes {n : Int} : ∀ (f k : Nat) (ps : List Int), k + 1 < (roundsV f ps n).length → keptV (itK n k ps) n ≠ itK n k ps
  | 0, k, ps, h => by unfold roundsV at h; simp at h
  | f + 1, k, ps, h => by
    rw [show roundsV (f + 1) ps n = if keptV ps n = ps then [ps] else ps :: roundsV f (keptV ps n) n from rfl] at h
    split at h
    · simp at h
    · rename_i e
      cases k with
      | zero => exact e
      | succ k =>
        rw [List.length_cons] at h
        have h' : k + 1 < (roundsV f (keptV ps n) n).length := by omega
        exact rounds_changes f k (keptV ps n) h'
def EV (n : Int) : Nat → List Int → List Int
  | 0, qs => qs
  | i + 1, qs => EV n i (extV (fibP (i + 1)).2 qs n)
section
variable {n : Int} {f N : Nat} {ps : List Int}
theorem stage_low (h : OkP ps n) (hL : N + 1 ≤ (roundsV f ps n).length) (h1 : 1 ≤ N) : ∀ i, i ≤ N → (∀ g ∈ gapsV (itK n i ps) n, (fibP (i + 1)).1 ≤ g) ∧ (fibP (i + 1)).2 ≤ maxG (itK n i ps) n
  | 0, _ => ⟨fun g hg => by
      obtain ⟨k, _, _, rfl⟩ := mem_gaps.mp hg
      exact (gap_pos h.pos).1, max_two h (rounds_changes (n := n) f 0 ps (by omega))⟩
  | i + 1, hi => by
    obtain ⟨a, b⟩ := stage_low h hL h1 i (by omega)
    have ok := itK_ok (n := n) i h
    have ch := rounds_changes (n := n) f i ps (by omega)
    rw [itK_next]
    refine ⟨fun g hg => Int.le_trans b (kept_least ok hg), ?_⟩
    have := kept_grows ok ch a
    show (fibP (i + 1)).1 + (fibP (i + 1)).2 ≤ _
    omega
theorem stage_high (h : OkP ps n) (hL : N + 1 ≤ (roundsV f ps n).length) (h1 : 1 ≤ N) (hn : n = (fibP (N + 1)).2) : ∀ j i, i + j = N → maxG (itK n i ps) n ≤ (fibP (i + 1)).2
  | 0, i, e => by
    have ok := itK_ok (n := n) i h
    have := max_le ok
    rw [show i = N by omega] at this ⊢
    omega
  | j + 1, i, e => by
    have ih := stage_high h hL h1 hn j (i + 1) (by omega)
    have ok := itK_ok (n := n) i h
    have ch := rounds_changes (n := n) f i ps (by omega)
    have a := (stage_low h hL h1 i (by omega)).1
    have := kept_grows ok ch a
    rw [itK_next] at ih
    have e2 : (fibP (i + 1 + 1)).2 = (fibP (i + 1)).1 + (fibP (i + 1)).2 := rfl
    omega
theorem stage_ext (h : OkP ps n) (hL : N + 1 ≤ (roundsV f ps n).length) (h1 : 1 ≤ N) (hn : n = (fibP (N + 1)).2) : ∀ i, i ≤ N → ps = EV n i (itK n i ps)
  | 0, _ => rfl
  | i + 1, hi => by
    have ih := stage_ext h hL h1 hn i (by omega)
    have ok := itK_ok (n := n) i h
    obtain ⟨a, b⟩ := stage_low h hL h1 i (by omega)
    have c := stage_high h hL h1 hn (N - i) i (by omega)
    have d := stage_high h hL h1 hn (N - (i + 1)) (i + 1) (by omega)
    rw [itK_next] at d
    have e2 : (fibP (i + 1 + 1)).2 = (fibP (i + 1)).1 + (fibP (i + 1)).2 := rfl
    have m : maxG (itK n i ps) n = (fibP (i + 1)).2 := by omega
    have u := unkept_ext ok a (by omega)
    rw [m, ← itK_next] at u
    show ps = EV n i (extV (fibP (i + 1)).2 (itK n (i + 1) ps) n)
    rw [← u]
    exact ih
theorem stage_one (h : OkP ps n) (hL : N + 1 ≤ (roundsV f ps n).length) (h1 : 1 ≤ N) (hn : n = (fibP (N + 1)).2) : ∃ p, 0 ≤ p ∧ p < n ∧ ps = EV n N [p] := by
  have ok := itK_ok (n := n) N h
  obtain ⟨_, b⟩ := stage_low h hL h1 N (Nat.le_refl _)
  have c := max_le ok
  have m : maxG (itK n N ps) n = n := by omega
  obtain ⟨k, k0, k1, e⟩ := mem_gaps.mp (maxGK (n := n) ok.ne).2.1
  rw [m, gap_dV ok k0 k1] at e
  have nk := nx_rg k0 k1
  have r1 := ok.rg _ (sAt_mem k0 k1)
  have r2 := ok.rg _ (sAt_mem nk.1 nk.2)
  have same : sAt (itK n N ps) k = sAt (itK n N ps) (nxI (itK n N ps) k) := by
    unfold dV at e
    split at e <;> omega
  have kk := sAt_inj ok.asc k0 k1 nk.1 nk.2 same
  rw [nx_if k0 k1] at kk
  have l1 : (itK n N ps).length = 1 := by
    split at kk <;> omega
  obtain ⟨p, ep⟩ := List.length_eq_one_iff.mp l1
  have rp := ok.rg p (by rw [ep]; exact List.mem_singleton.mpr rfl)
  refine ⟨p, rp.1, rp.2, ?_⟩
  rw [← ep]
  exact stage_ext h hL h1 hn N (Nat.le_refl _)
end
end DL

namespace DL
open PySem L2
/-! ## wipings, ends of marks -/
def kc__law_wipers (places : (List Int)) (size : Int) : M (Out Unit Empty (List Int)) := mb (k__law_gaps places size) fun gaps1 =>
    mb (mb (rngM 0 (gaps1.length : Int)) fun v2 => lcM (fun k3 => mb (ixM gaps1 k3) fun v4 => mb (mb (modM (k3 + 1) (gaps1.length : Int)) fun v5 => ixM gaps1 v5) fun v6 => (.ok (decide (v6 < v4)))) (fun k3 => ixM places k3) v2) fun v7 => .ok (.rt v7)
def k__law_wipers (places : (List Int)) (size : Int) : M (List Int) := fnV .no (kc__law_wipers places size)
def kc__law_left (places : (List Int)) (place : Int) : M (Out Unit Empty (List Int)) := mb (mb (mb (ixOfM places place) fun v1 => (.ok (v1 + 1))) fun v2 => modM v2 (places.length : Int)) fun at3 =>
    mb (catM (cut places none (some at3)) (cut places (some (at3 + 1)) none)) fun v4 => .ok (.rt v4)
def k__law_left (places : (List Int)) (place : Int) : M (List Int) := fnV .no (kc__law_left places place)
def kc_is_spaced (marks : (Int × (List Int) × (List Int))) (cut : (List Int)) : M (Out Unit Empty Bool) := if (decide ((cut.length : Int) = 0)) = true then .ok (.rt false)
    else mb (rngM 0 (cut.length : Int)) fun v1 => sq (forM (fun (k2 : Int) (s3 : Unit) =>
    mb (mb (mb (ixM cut k2) fun v4 => (.ok (!decide (v4 ∈ marks.2.1)))) fun v5 => if v5 = true then .ok true else if (decide (0 < k2)) = true then mb (ixM cut k2) fun v6 => mb (ixM cut (k2 - 1)) fun v7 => (.ok (decide (v6 ≤ v7))) else .ok false) fun v8 => if v8 = true then .ok (.rt false)
    else .ok (.nx ())) v1 ()) fun s9 =>
    mb (k_gaps_between cut marks.1) fun distances10 =>
    mb (mb (minI distances10) fun v11 => mb (maxI distances10) fun v12 => (.ok (decide (v11 = v12)))) fun v13 => .ok (.rt v13)
def k_is_spaced (marks : (Int × (List Int) × (List Int))) (cut : (List Int)) : M Bool := fnV .no (kc_is_spaced marks cut)
def kc_check_end (marks : (Int × (List Int) × (List Int))) (end_ : (List Int)) : M (Out Unit Empty (List Int)) := mb (mb (k_is_spaced marks end_) fun v1 => (.ok (!v1))) fun v2 => if v2 = true then .er ⟨"BadCut", [("cut", (eT eI) end_)]⟩
    else .ok (.rt end_)
def k_check_end (marks : (Int × (List Int) × (List Int))) (end_ : (List Int)) : M (List Int) := fnV .no (kc_check_end marks end_)
def kc_inner_marks (marks : (Int × (List Int) × (List Int))) (cut : (List Int)) : M (Out Unit Empty (List (Int × Int × Int × Int))) := let many1 := (marks.2.1.length : Int)
    mb (mb (ixM cut 0) fun v2 => ixOfM marks.2.1 v2) fun first3 =>
    mb (ixM cut 0) fun v4 => (fun (head5 : Int) (way6 : Int) =>
    mb (rngM 0 many1) fun v7 => sq (forM (fun (step8 : Int) (s9 : Int × Int × List (Int × Int × Int × Int)) =>
    mb (modM (first3 + step8) many1) fun at10 =>
    mb (ixM marks.2.1 at10) fun place11 => mb (ixM marks.2.2 at10) fun gap12 =>
    sq (if (decide (place11 ∈ cut)) = true then (fun (head13 : Int) (way14 : Int) =>
    .ok (.nx (head13, way14, s9.2.2))) place11 0 else mb (app s9.2.2 (s9.1, place11, gap12, s9.2.1)) fun found15 =>
    .ok (.nx (s9.1, s9.2.1, found15))) fun (j16 : Int × Int × List (Int × Int × Int × Int)) =>
    .ok (.nx (j16.1, (j16.2.1 + gap12), j16.2.2))) v7 (head5, way6, ([] : List (Int × Int × Int × Int)))) fun s17 =>
    .ok (.rt s17.2.2)) v4 0
def k_inner_marks (marks : (Int × (List Int) × (List Int))) (cut : (List Int)) : M (List (Int × Int × Int × Int)) := fnV .no (kc_inner_marks marks cut)
def kc_mark_fault (marks : (Int × (List Int) × (List Int))) (end_ : (List Int)) : M (Out Unit Empty (Option (PySem.Str × Int × Int))) := mb (mb (k_check_end marks end_) fun v1 => k_inner_marks marks v1) fun v2 => sq (forM (fun (x3 : (Int × Int × Int × Int)) (s4 : Unit) =>
    if (decide (x3.2.2.2 ≤ x3.2.2.1)) = true then .ok (.rt (some (("blocked" : PySem.Str), x3.1, x3.2.1)))
    else .ok (.nx ())) v2 ()) fun s5 =>
    .ok (.rt (none : Option (PySem.Str × Int × Int)))
def k_mark_fault (marks : (Int × (List Int) × (List Int))) (end_ : (List Int)) : M (Option (PySem.Str × Int × Int)) := fnV (.ok none) (kc_mark_fault marks end_)
def kc_mark_ends (marks : (Int × (List Int) × (List Int))) : M (Out Unit Empty (List (List Int))) := mb (rngM 1 ((marks.2.1.length : Int) + 1)) fun v1 => sq (forM (fun (many2 : Int) (s3 : List (List Int)) =>
    mb (mb (modM marks.1 many2) fun v4 => (.ok (decide (v4 = 0)))) fun v5 => if v5 = true then mb (divM marks.1 many2) fun arc6 =>
    mb (lcM (fun place7 => (.ok (decide (place7 < arc6)))) (fun place7 => (.ok place7)) marks.2.1) fun v8 => sq (forM (fun (first9 : Int) (s10 : List (List Int)) =>
    mb (mb (rngM 0 many2) fun v11 => mapC (fun k12 => mb (mulM arc6 k12) fun v13 => (.ok (first9 + v13))) v11) fun cut14 =>
    mb (mb (k_is_spaced marks cut14) fun v15 => if v15 = true then mb (k_mark_fault marks cut14) fun v16 => (.ok v16.isNone) else .ok false) fun v17 => if v17 = true then mb (app s10 cut14) fun ends18 =>
    .ok (.nx ends18)
    else .ok (.nx s10)) v8 s3) fun s19 =>
    .ok (.nx s19)
    else .ok (.nx s3)) v1 ([] : List (List Int))) fun s20 =>
    .ok (.rt s20)
def k_mark_ends (marks : (Int × (List Int) × (List Int))) : M (List (List Int)) := fnV .no (kc_mark_ends marks)
def kc_wipe_plan (marks : (Int × (List Int) × (List Int))) (end_ : (List Int)) : M (Out Unit Empty (List Int)) := mb (k_mark_fault marks end_) fun reason1 =>
    if reason1.isSome = true then .er ⟨"NoEnd", [("reason", (eO (eP3 eS eI eI)) reason1)]⟩
    else mb (mb (k_inner_marks marks end_) fun v3 => mapC (fun x4 => (.ok x4.1)) v3) fun v5 => .ok (.rt v5)
def k_wipe_plan (marks : (Int × (List Int) × (List Int))) (end_ : (List Int)) : M (List Int) := fnV .no (kc_wipe_plan marks end_)
def kc__law_even (size : Int) (places : (List Int)) : M (Out Unit Empty (List (List Int))) := mb (mb (rngM 1 ((places.length : Int) + 1)) fun v1 => lcM (fun one2 => mb (modM size one2) fun v3 => (.ok (decide (v3 = 0)))) (fun one2 => (.ok one2)) v1) fun v4 => sq (forM (fun (many5 : Int) (s6 : List (List Int)) =>
    mb (divM size many5) fun arc7 =>
    mb (lcM (fun place8 => (.ok (decide (place8 < arc7)))) (fun place8 => (.ok place8)) places) fun v9 => sq (forM (fun (first10 : Int) (s11 : List (List Int)) =>
    mb (mb (rngM 0 many5) fun v12 => mapC (fun k13 => mb (mulM arc7 k13) fun v14 => (.ok (first10 + v14))) v12) fun cut15 =>
    mb (mb (lcM (fun place16 => (.ok (!decide (place16 ∈ places)))) (fun place16 => (.ok place16)) cut15) fun v17 => (.ok (decide (v17 = ([] : List Int))))) fun v18 => if v18 = true then mb (app s11 cut15) fun found19 =>
    .ok (.nx found19)
    else .ok (.nx s11)) v9 s6) fun s20 =>
    .ok (.nx s20)) v4 ([] : List (List Int))) fun s21 =>
    .ok (.rt s21)
def k__law_even (size : Int) (places : (List Int)) : M (List (List Int)) := fnV .no (kc__law_even size places)
def wiI (ps : List Int) (n : Int) : List Int := (rng 0 ps.length).filter fun k => decide (gapV ps n (nxI ps k) < gapV ps n k)
def wipV (ps : List Int) (n : Int) : List Int := (wiI ps n).map (sAt ps)
def leftA (ps : List Int) (w : Int) : List Int := ps.take w.toNat ++ ps.drop (w.toNat + 1)
theorem ixGap {ps : List Int} {n k : Int} (h0 : 0 ≤ k) (h1 : k < ps.length) : ixM (gapsV ps n) k = .ok (gapV ps n k) := by
  unfold gapsV
  exact ixMapR h0 h1
theorem lawWipersK {ps : List Int} {n : Int} (h : OkP ps n) : k__law_wipers ps n = .ok (wipV ps n) := by
  unfold k__law_wipers kc__law_wipers
  have hb := h.big
  rw [lawGapsK h.pos hb, mbk, gapsV_len, rngK (by decide) (by decide) (by omega) (by omega), mbk, lcK (fun k => decide (gapV ps n (nxI ps k) < gapV ps n k)) (sAt ps) (by rw [rng_len]; omega)]
  · rfl
  · intro k hk
    obtain ⟨a, b⟩ := mem_rng.mp hk
    have nk := nx_rg a b
    rw [ixGap a b, mbk, modK (by omega), mbk]
    rw [show (k + 1) % (ps.length : Int) = nxI ps k from rfl, ixGap nk.1 nk.2, mbk]
  · intro k hk
    obtain ⟨a, b⟩ := mem_rng.mp hk
    rw [ixS a b]
theorem cut_to (xs : List Int) {w : Int} (h0 : 0 ≤ w) (h1 : w ≤ xs.length) : cut xs none (some w) = xs.take w.toNat := by
  unfold cut
  rw [show w = ((w.toNat : Nat) : Int) by omega, HT.sIx_nat xs.length xs.length w.toNat, HT.sIx_none, List.drop_zero, Nat.sub_zero, Nat.min_eq_left (by omega), Int.toNat_natCast]
theorem cut_from (xs : List Int) {w : Int} (h0 : 0 ≤ w) : cut xs (some (w + 1)) none = xs.drop (w.toNat + 1) := by
  rw [show w + 1 = ((w.toNat + 1 : Nat) : Int) by omega, cutN]
theorem left_len {ps : List Int} {w : Int} (h0 : 0 ≤ w) (h1 : w < ps.length) : (leftA ps w).length + 1 = ps.length := by
  unfold leftA
  rw [List.length_append, List.length_take, List.length_drop]
  omega
theorem leftCut {ps : List Int} {w : Int} (hb : ps.length ≤ 90000) (h0 : 0 ≤ w) (h1 : w < ps.length) : catM (cut ps none (some w)) (cut ps (some (w + 1)) none) = .ok (leftA ps w) := by
  have := left_len h0 h1
  unfold leftA at this
  rw [List.length_append] at this
  rw [cut_to ps h0 (by omega), cut_from ps h0, catK (by omega)]
  rfl
theorem left_sub (ps : List Int) (w : Int) : (leftA ps w).Sublist ps := by
  unfold leftA
  have : (ps.take w.toNat ++ ps.drop (w.toNat + 1)).Sublist (ps.take w.toNat ++ ps.drop w.toNat) := List.Sublist.append (List.Sublist.refl _) (by
    rw [← List.drop_drop]
    exact List.drop_sublist _ _)
  rwa [List.take_append_drop] at this
theorem wi_two {ps : List Int} {n k : Int} (hk : k ∈ wiI ps n) : 0 ≤ k ∧ k < ps.length ∧ gapV ps n (nxI ps k) < gapV ps n k ∧ 2 ≤ ps.length := by
  obtain ⟨a, b⟩ := List.mem_filter.mp hk
  obtain ⟨k0, k1⟩ := mem_rng.mp a
  have lt : gapV ps n (nxI ps k) < gapV ps n k := by simpa using b
  refine ⟨k0, k1, lt, ?_⟩
  apply Classical.byContradiction
  intro no
  have l1 : ps.length = 1 := by omega
  have e : nxI ps k = k := by
    rw [nx_if k0 k1, if_neg (by omega)]
    omega
  rw [e] at lt
  omega
theorem left_ok {ps : List Int} {n k : Int} (h : OkP ps n) (hk : k ∈ wiI ps n) : OkP (leftA ps (nxI ps k)) n := by
  obtain ⟨k0, k1, _, l2⟩ := wi_two hk
  have nk := nx_rg k0 k1
  have hl := left_len nk.1 nk.2
  have s := left_sub ps (nxI ps k)
  exact ⟨fun e => by rw [e] at hl; simp at hl; omega, h.asc.sublist s, fun p hp => h.rg p (s.subset hp), Nat.le_trans s.length_le h.big⟩
theorem wi_len (ps : List Int) (n : Int) : (wiI ps n).length ≤ ps.length := by
  refine Nat.le_trans (List.length_filter_le _ _) ?_
  rw [rng_len]; omega
theorem ixOf_sAt {ps : List Int} {k : Int} (h : ps.Pairwise (· < ·)) (k0 : 0 ≤ k) (k1 : k < ps.length) : ixOfM ps (sAt ps k) = .ok k := by
  have go : ∀ (xs : List Int) (x : Int), x ∈ xs → ∃ j, ixOf x xs = some j := by
    intro xs
    induction xs with
    | nil => intro x hx; cases hx
    | cons y ys ih =>
      intro x hx
      unfold ixOf
      by_cases c : y = x
      · exact ⟨0, if_pos c⟩
      · rcases List.mem_cons.mp hx with e | e
        · exact absurd e.symm c
        · obtain ⟨j, ej⟩ := ih x e
          exact ⟨j + 1, by rw [if_neg c, ej]; rfl⟩
  obtain ⟨j, ej⟩ := go ps (sAt ps k) (sAt_mem k0 k1)
  obtain ⟨g1, _⟩ := ixOf_hit ej
  have jl := (List.getElem?_eq_some_iff.mp g1).1
  have e : sAt ps (j : Int) = sAt ps k := by
    conv => lhs; unfold sAt
    rw [List.getD_eq_getElem?_getD, Int.toNat_natCast, g1]
    rfl
  have := sAt_inj h (by omega) (by omega) k0 k1 e
  unfold ixOfM
  rw [ej, ← this]
theorem lawLeftK {ps : List Int} {n k : Int} (h : OkP ps n) (hk : k ∈ wiI ps n) : k__law_left ps (sAt ps k) = .ok (leftA ps (nxI ps k)) := by
  unfold k__law_left kc__law_left
  obtain ⟨k0, k1, _, _⟩ := wi_two hk
  have nk := nx_rg k0 k1
  rw [ixOf_sAt h.asc k0 k1, mbk, mbk, modK (by omega), mbk]
  rw [show (k + 1) % (ps.length : Int) = nxI ps k from rfl, leftCut h.big nk.1 nk.2, mbk]
  rfl

/-! ### going round from a mark on -/
def offV (n c x : Int) : Int := if c ≤ x then x - c else x - c + n
theorem off_rg {n c x : Int} (hc : 0 ≤ c ∧ c < n) (hx : 0 ≤ x ∧ x < n) : 0 ≤ offV n c x ∧ offV n c x < n := by
  unfold offV; split <;> omega
theorem off_inj {n c x y : Int} (hc : 0 ≤ c ∧ c < n) (hx : 0 ≤ x ∧ x < n) (hy : 0 ≤ y ∧ y < n) (h : offV n c x = offV n c y) : x = y := by
  unfold offV at h; split at h <;> split at h <;> omega
theorem off_dV {n c x y : Int} (hc : 0 ≤ c ∧ c < n) (hx : 0 ≤ x ∧ x < n) (hy : 0 ≤ y ∧ y < n) : dV n x y = if offV n c x < offV n c y then offV n c y - offV n c x else offV n c y - offV n c x + n := by
  unfold offV dV
  split <;> split <;> split <;> (try split) <;> omega
theorem mod_off {n h x : Int} (hh : 0 ≤ h ∧ h < n) (hx : 0 ≤ x ∧ x < n) (ne : x ≠ h) : (x - h) % n = dV n h x := by
  unfold dV
  split
  · exact Int.emod_eq_of_lt (by omega) (by omega)
  · rw [← Int.add_emod_right, Int.emod_eq_of_lt (by omega) (by omega)]
/-- from a mark to the next one -/
theorem off_next {ps : List Int} {n c k : Int} (h : OkP ps n) (hc : c ∈ ps) (h0 : 0 ≤ k) (h1 : k < ps.length) (ne : sAt ps (nxI ps k) ≠ c) : offV n c (sAt ps (nxI ps k)) = offV n c (sAt ps k) + gapV ps n k := by
  have rc := h.rg _ hc
  have rk := h.rg _ (sAt_mem h0 h1)
  have nk := nx_rg h0 h1
  have rn := h.rg _ (sAt_mem nk.1 nk.2)
  have l := gap_least h h0 h1 hc
  have e := gap_dV h h0 h1
  rw [e] at l ⊢
  unfold offV
  unfold dV at l ⊢
  split <;> split <;> (try split) <;> (split at l) <;> (try split at l) <;> omega
/-- nothing stands between a mark and the next one -/
theorem off_none {ps : List Int} {n c k x : Int} (h : OkP ps n) (hc : c ∈ ps) (h0 : 0 ≤ k) (h1 : k < ps.length) (hx : x ∈ ps) (h2 : offV n c (sAt ps k) < offV n c x) : offV n c (sAt ps k) + gapV ps n k ≤ offV n c x := by
  have l := gap_least h h0 h1 hx
  rw [off_dV (h.rg _ hc) (h.rg _ (sAt_mem h0 h1)) (h.rg _ hx), if_pos h2] at l
  omega
/-! ### the least way -/
def minV : List Int → Int
  | [] => 0
  | x :: xs => xs.foldl min x
theorem minVK {xs : List Int} (h : xs ≠ []) : minI xs = .ok (minV xs) ∧ minV xs ∈ xs ∧ ∀ y ∈ xs, minV xs ≤ y := by
  cases xs with
  | nil => exact absurd rfl h
  | cons x xs => exact ⟨rfl, foldl_min xs x⟩
theorem minV_eq {xs : List Int} {m : Int} (h : m ∈ xs) (h2 : ∀ y ∈ xs, m ≤ y) : minV xs = m := by
  obtain ⟨_, a, b⟩ := minVK (xs := xs) (List.ne_nil_of_mem h)
  exact Int.le_antisymm (b _ h) (h2 _ a)
def wayV (n : Int) (cut : List Int) (x : Int) : Int := minV (cut.map fun h => (x - h) % n)
theorem way_eq {n h x : Int} {cut : List Int} (rc : ∀ y ∈ cut, 0 ≤ y ∧ y < n) (rx : 0 ≤ x ∧ x < n) (hx : x ∉ cut) (hh : h ∈ cut) (hm : ∀ y ∈ cut, dV n h x ≤ dV n y x) : wayV n cut x = dV n h x := by
  have e : ∀ y ∈ cut, (x - y) % n = dV n y x := fun y hy => mod_off (rc y hy) rx fun q => hx (by rw [q]; exact hy)
  refine minV_eq (List.mem_map.mpr ⟨h, hh, e h hh⟩) fun z hz => ?_
  obtain ⟨y, hy, rfl⟩ := List.mem_map.mp hz
  rw [e y hy]
  exact hm y hy
theorem way_le {n h x : Int} {cut : List Int} (rc : ∀ y ∈ cut, 0 ≤ y ∧ y < n) (rx : 0 ≤ x ∧ x < n) (hx : x ∉ cut) (hh : h ∈ cut) : wayV n cut x ≤ dV n h x := by
  have := (minVK (xs := cut.map fun h => (x - h) % n) (List.ne_nil_of_mem (List.mem_map.mpr ⟨h, hh, rfl⟩))).2.2 _ (List.mem_map.mpr ⟨h, hh, rfl⟩)
  rwa [mod_off (rc h hh) rx fun q => hx (by rw [q]; exact hh)] at this
theorem way_at {n x : Int} {cut : List Int} (rc : ∀ y ∈ cut, 0 ≤ y ∧ y < n) (rx : 0 ≤ x ∧ x < n) (hx : x ∉ cut) (ne : cut ≠ []) : ∃ h ∈ cut, wayV n cut x = dV n h x ∧ ∀ y ∈ cut, dV n h x ≤ dV n y x := by
  obtain ⟨_, a, b⟩ := minVK (xs := cut.map fun h => (x - h) % n) (by simpa using ne)
  obtain ⟨h, hh, e⟩ := List.mem_map.mp a
  have q : ∀ y ∈ cut, (x - y) % n = dV n y x := fun y hy => mod_off (rc y hy) rx fun q => hx (by rw [q]; exact hy)
  have ew : wayV n cut x = dV n h x := by rw [← q h hh]; exact e.symm
  refine ⟨h, hh, ew, fun y hy => ?_⟩
  rw [← ew]
  exact way_le rc rx hx hy
/-! ### the marks outside of a cut, in the order of the ring -/
def headV (n : Int) (cut : List Int) (x : Int) : Int := (x - wayV n cut x) % n
theorem dV_back {n h x : Int} (hh : 0 ≤ h ∧ h < n) (hx : 0 ≤ x ∧ x < n) : (x - dV n h x) % n = h := by
  unfold dV
  split
  · rw [show x - (x - h) = h by omega]; exact Int.emod_eq_of_lt hh.1 hh.2
  · rw [show x - (x - h + n) = h - n by omega, Int.sub_emod_right]; exact Int.emod_eq_of_lt hh.1 hh.2
/-- the index s steps on from f -/
def onI (ps : List Int) (f s : Int) : Int := (f + s) % ps.length
theorem on_rg8 {ps : List Int} {f s : Int} (hne : ps ≠ []) : 0 ≤ onI ps f s ∧ onI ps f s < ps.length := by
  have : 0 < ps.length := List.length_pos_iff.mpr hne
  exact ⟨Int.emod_nonneg _ (by omega), Int.emod_lt_of_pos _ (by omega)⟩
theorem on_next {ps : List Int} {f s : Int} : nxI ps (onI ps f s) = onI ps f (s + 1) := by
  unfold nxI onI
  rw [Int.emod_add_emod]
  congr 1
  omega
theorem on_ne {ps : List Int} {f s : Int} (h0 : 0 ≤ f) (h1 : f < ps.length) (s0 : 0 < s) (s1 : s < ps.length) : onI ps f s ≠ f := by
  unfold onI
  by_cases c : f + s < ps.length
  · rw [Int.emod_eq_of_lt (by omega) c]; omega
  · rw [show f + s = (f + s - ps.length) + ps.length by omega, Int.add_emod_right, Int.emod_eq_of_lt (by omega) (by omega)]; omega
/-- going round: the offsets rise -/
theorem on_off {ps : List Int} {n f : Int} (h : OkP ps n) (h0 : 0 ≤ f) (h1 : f < ps.length) : ∀ (s : Nat), (s : Int) + 1 < ps.length → offV n (sAt ps f) (sAt ps (onI ps f (s + 1))) = offV n (sAt ps f) (sAt ps (onI ps f s)) + gapV ps n (onI ps f s) := fun s hs => by
  have r := on_rg8 (f := f) (s := s) h.ne
  have := off_next h (sAt_mem h0 h1) r.1 r.2 (by
    rw [on_next]
    intro e
    have r2 := on_rg8 (f := f) (s := (s : Int) + 1) h.ne
    exact on_ne h0 h1 (by omega) hs (sAt_inj h.asc r2.1 r2.2 h0 h1 e))
  rwa [on_next] at this
theorem on_lt {ps : List Int} {n f : Int} (h : OkP ps n) (h0 : 0 ≤ f) (h1 : f < ps.length) : ∀ (d s : Nat), (s : Int) + d + 1 < ps.length → offV n (sAt ps f) (sAt ps (onI ps f s)) < offV n (sAt ps f) (sAt ps (onI ps f (s + (d + 1 : Nat))))
  | 0, s, hs => by
    have := on_off h h0 h1 s (by omega)
    have g := gap_pos (ps := ps) (n := n) (k := onI ps f s) h.pos
    rw [show (s : Int) + ((0 + 1 : Nat) : Int) = (s : Int) + 1 by omega]
    omega
  | d + 1, s, hs => by
    have a := on_lt h h0 h1 d s (by omega)
    have b := on_off h h0 h1 (s + (d + 1)) (by omega)
    have g := gap_pos (ps := ps) (n := n) (k := onI ps f ((s + (d + 1) : Nat) : Int)) h.pos
    rw [show (s : Int) + ((d + 1 + 1 : Nat) : Int) = ((s + (d + 1) : Nat) : Int) + 1 by omega]
    rw [show (s : Int) + ((d + 1 : Nat) : Int) = ((s + (d + 1) : Nat) : Int) by omega] at a
    omega
theorem on_self {ps : List Int} {f : Int} (h0 : 0 ≤ f) (h1 : f < ps.length) : onI ps f 0 = f := by
  unfold onI
  rw [Int.add_zero]
  exact Int.emod_eq_of_lt h0 h1
/-- the steps of the marks outside -/
def outS (ps cut : List Int) (f : Int) (m : Int) : List Int := (rng 0 m).filter fun s => !decide (sAt ps (onI ps f s) ∈ cut)
def innV (ps cut : List Int) (n f m : Int) : List (Int × Int × Int × Int) := (outS ps cut f m).map fun s => (headV n cut (sAt ps (onI ps f s)), sAt ps (onI ps f s), gapV ps n (onI ps f s), wayV n cut (sAt ps (onI ps f s)))
theorem rng_snoc {m : Int} (h : 0 ≤ m) : rng 0 (m + 1) = rng 0 m ++ [m] := by
  rw [rng_app (lo := 0) (mid := m) (hi := m + 1) h (by omega), rng_cons (lo := m) (hi := m + 1) (by omega), rng_nil (Int.le_refl _)]
theorem innV_step {ps cut : List Int} {n f m : Int} (h : 0 ≤ m) : innV ps cut n f (m + 1) = innV ps cut n f m ++ if sAt ps (onI ps f m) ∈ cut then [] else [(headV n cut (sAt ps (onI ps f m)), sAt ps (onI ps f m), gapV ps n (onI ps f m), wayV n cut (sAt ps (onI ps f m)))] := by
  unfold innV outS
  rw [rng_snoc h, List.filter_append, List.map_append]
  congr 1
  by_cases c : sAt ps (onI ps f m) ∈ cut
  · rw [if_pos c, List.filter_cons_of_neg (by simp [c])]; rfl
  · rw [if_neg c, List.filter_cons_of_pos (by simp [c])]; rfl
def innB (mk : MV) (cut : List Int) (f m : Int) (step8 : Int) (s9 : Int × Int × List (Int × Int × Int × Int)) : M (Out (Int × Int × List (Int × Int × Int × Int)) (Int × Int × List (Int × Int × Int × Int)) (List (Int × Int × Int × Int))) :=
    mb (modM (f + step8) m) fun at10 =>
    mb (ixM mk.2.1 at10) fun place11 => mb (ixM mk.2.2 at10) fun gap12 =>
    sq (if (decide (place11 ∈ cut)) = true then (fun (head13 : Int) (way14 : Int) =>
    .ok (.nx (head13, way14, s9.2.2))) place11 0 else mb (app s9.2.2 (s9.1, place11, gap12, s9.2.1)) fun found15 =>
    .ok (.nx (s9.1, s9.2.1, found15))) fun (j16 : Int × Int × List (Int × Int × Int × Int)) =>
    .ok (.nx (j16.1, (j16.2.1 + gap12), j16.2.2))
structure InnI (ps cut : List Int) (n f : Int) (s : Nat) (t : Int × Int × List (Int × Int × Int × Int)) : Prop where
  fd : t.2.2 = innV ps cut n f s
  hd : t.1 ∈ cut
  le : (s : Int) < ps.length → offV n (sAt ps f) t.1 ≤ offV n (sAt ps f) (sAt ps (onI ps f s)) ∧ t.2.1 = offV n (sAt ps f) (sAt ps (onI ps f s)) - offV n (sAt ps f) t.1
  mx : (s : Int) < ps.length → ∀ h ∈ cut, offV n (sAt ps f) h < offV n (sAt ps f) (sAt ps (onI ps f s)) → offV n (sAt ps f) h ≤ offV n (sAt ps f) t.1
theorem innStep {ps cut : List Int} {n f : Int} {s : Nat} {t : Int × Int × List (Int × Int × Int × Int)} (h : OkP ps n) (hb : ps.length ≤ 80000) (hc : ∀ x ∈ cut, x ∈ ps) (h0 : 0 ≤ f) (h1 : f < ps.length) (hf : sAt ps f ∈ cut) (hs : (s : Int) < ps.length) (I : InnI ps cut n f s t) :
    ∃ t', innB (marksV n ps) cut f ps.length s t = .ok (.nx t') ∧ InnI ps cut n f (s + 1) t' := by
  have r := on_rg8 (f := f) (s := s) h.ne
  have il : (innV ps cut n f s).length ≤ s := by
    unfold innV outS
    rw [List.length_map]
    refine Nat.le_trans (List.length_filter_le _ _) ?_
    rw [rng_len]; omega
  have rh := h.rg _ (hc _ I.hd)
  have rf := h.rg _ (sAt_mem h0 h1)
  have rx := h.rg _ (sAt_mem r.1 r.2)
  obtain ⟨l1, l2⟩ := I.le hs
  have mx := I.mx hs
  unfold innB
  have e1 : modM (f + (s : Int)) (ps.length : Int) = .ok (onI ps f s) := modK (by omega)
  have e2 : ixM (marksV n ps).2.1 (onI ps f s) = .ok (sAt ps (onI ps f s)) := ixS r.1 r.2
  have e3 : ixM (marksV n ps).2.2 (onI ps f s) = .ok (gapV ps n (onI ps f s)) := ixGap r.1 r.2
  rw [e1, mbk, e2, mbk, e3, mbk]
  have nx : (((s + 1 : Nat) : Int)) = (s : Int) + 1 := by omega
  by_cases c : sAt ps (onI ps f s) ∈ cut
  · rw [if_pos (decide_eq_true c), sqk]
    refine ⟨_, rfl, ⟨?_, c, fun q => ?_, fun q y hy hlt => ?_⟩⟩
    · show t.2.2 = _
      rw [I.fd, nx, innV_step (by omega), if_pos c, List.append_nil]
    · have := on_off h h0 h1 s (by omega)
      have g := gap_pos (ps := ps) (n := n) (k := onI ps f s) h.pos
      rw [nx]
      show _ ∧ (0 : Int) + gapV ps n (onI ps f s) = _
      show offV n (sAt ps f) (sAt ps (onI ps f s)) ≤ _ ∧ _ = _ - offV n (sAt ps f) (sAt ps (onI ps f s))
      omega
    · have := on_off h h0 h1 s (by omega)
      rw [nx] at hlt
      show offV n (sAt ps f) y ≤ offV n (sAt ps f) (sAt ps (onI ps f s))
      apply Classical.byContradiction
      intro no
      have := off_none h (sAt_mem h0 h1) r.1 r.2 (hc y hy) (by omega)
      omega
  · have ne : t.1 ≠ sAt ps (onI ps f s) := fun e => c (by rw [← e]; exact I.hd)
    have lt : offV n (sAt ps f) t.1 < offV n (sAt ps f) (sAt ps (onI ps f s)) := by
      rcases Int.lt_or_eq_of_le l1 with q | q
      · exact q
      · exact absurd (off_inj rf rh rx q) ne
    have ed : dV n t.1 (sAt ps (onI ps f s)) = t.2.1 := by rw [off_dV rf rh rx, if_pos lt, l2]
    have ew : wayV n cut (sAt ps (onI ps f s)) = t.2.1 := by
      rw [← ed]
      refine way_eq (fun y hy => h.rg _ (hc y hy)) rx c I.hd fun y hy => ?_
      rw [off_dV rf rh rx, off_dV rf (h.rg _ (hc y hy)) rx, if_pos lt]
      split
      · rename_i q
        have := mx y hy q
        omega
      · have a := off_rg rf (h.rg _ (hc y hy))
        have b := off_rg rf rh
        have d := off_rg rf rx
        omega
    have eh : headV n cut (sAt ps (onI ps f s)) = t.1 := by
      unfold headV
      rw [ew, ← ed]
      exact dV_back rh rx
    rw [if_neg (by simpa using c), appK (by rw [I.fd]; omega), mbk, sqk]
    refine ⟨_, rfl, ⟨?_, I.hd, fun q => ?_, fun q y hy hlt => ?_⟩⟩
    · show t.2.2 ++ [(t.1, sAt ps (onI ps f s), gapV ps n (onI ps f s), t.2.1)] = _
      rw [I.fd, nx, innV_step (by omega), if_neg c, eh, ew]
    · have := on_off h h0 h1 s (by omega)
      have g := gap_pos (ps := ps) (n := n) (k := onI ps f s) h.pos
      rw [nx]
      show offV n (sAt ps f) t.1 ≤ _ ∧ t.2.1 + gapV ps n (onI ps f s) = _ - offV n (sAt ps f) t.1
      omega
    · have := on_off h h0 h1 s (by omega)
      rw [nx] at hlt
      show offV n (sAt ps f) y ≤ offV n (sAt ps f) t.1
      by_cases q : offV n (sAt ps f) y < offV n (sAt ps f) (sAt ps (onI ps f s))
      · exact mx y hy q
      · exfalso
        rcases Int.lt_or_eq_of_le (show offV n (sAt ps f) (sAt ps (onI ps f s)) ≤ offV n (sAt ps f) y by omega) with q2 | q2
        · have := off_none h (sAt_mem h0 h1) r.1 r.2 (hc y hy) q2
          omega
        · exact c (by rw [off_inj rf rx (h.rg _ (hc y hy)) q2]; exact hy)
theorem innLoop {δ : Type} {ps cut : List Int} {n f : Int} (h : OkP ps n) (hb : ps.length ≤ 80000) (hc : ∀ x ∈ cut, x ∈ ps) (h0 : 0 ≤ f) (h1 : f < ps.length) (hf : sAt ps f ∈ cut) : ∃ t, (forM (innB (marksV n ps) cut f ps.length) (rng 0 ps.length) (sAt ps f, 0, []) : M (Out (Int × Int × List (Int × Int × Int × Int)) δ (List (Int × Int × Int × Int)))) = .ok (.nx t) ∧ t.2.2 = innV ps cut n f ps.length := by
  obtain ⟨t, e, I⟩ := forM_run (δ := δ) (f := innB (marksV n ps) cut f ps.length) (rng 0 ps.length) (sAt ps f, 0, []) (fun s t => InnI ps cut n f s t) (by
    have rf := h.rg _ (sAt_mem h0 h1)
    refine ⟨rfl, hf, fun _ => ?_, fun _ y hy hlt => ?_⟩
    · rw [show ((0 : Nat) : Int) = 0 from rfl, on_self h0 h1]
      exact ⟨Int.le_refl _, (Int.sub_self _).symm⟩
    · rw [show ((0 : Nat) : Int) = 0 from rfl, on_self h0 h1] at hlt
      exact Int.le_of_lt hlt) (fun i x s hx hI => by
    obtain ⟨rfl, hi⟩ := rng_getE hx
    rw [Int.zero_add]
    exact innStep h hb hc h0 h1 hf (by omega) hI)
  refine ⟨t, e, ?_⟩
  have := I.fd
  rwa [rng_len, show (((ps.length : Int) - 0).toNat : Int) = ps.length by omega] at this
theorem innerK {ps cut : List Int} {n : Int} (h : OkP ps n) (hb : ps.length ≤ 80000) (ne : cut ≠ []) (hc : ∀ x ∈ cut, x ∈ ps) : ∃ f : Int, 0 ≤ f ∧ f < ps.length ∧ sAt ps f = sAt cut 0 ∧ k_inner_marks (marksV n ps) cut = .ok (innV ps cut n f ps.length) := by
  have cl : 0 < cut.length := List.length_pos_iff.mpr ne
  obtain ⟨f, h0, h1, ef⟩ := mem_sAt (hc _ (sAt_mem (xs := cut) (i := 0) (by decide) (by omega)))
  refine ⟨f, h0, h1, ef.symm, ?_⟩
  obtain ⟨t, e, et⟩ := innLoop (δ := Empty) h hb hc h0 h1 (by rw [← ef]; exact sAt_mem (by decide) (by omega))
  have e1 : mb (ixM cut 0) (fun v2 => ixOfM (marksV n ps).2.1 v2) = .ok f := by
    rw [ixS (by decide) (by omega), mbk, ef]
    exact ixOf_sAt h.asc h0 h1
  unfold k_inner_marks kc_inner_marks
  simp only
  rw [e1, mbk, ixS (by decide) (by omega), mbk, show ((marksV n ps).2.1.length : Int) = (ps.length : Int) from rfl, rngK (by decide) (by decide) (by omega) (by omega), mbk, ef]
  show fnV _ (sq (forM (innB (marksV n ps) cut f ps.length) (rng 0 ps.length) (sAt ps f, 0, [])) fun s17 => .ok (.rt s17.2.2)) = _
  rw [e, sqk, et]
  rfl
theorem mem_inn {ps cut : List Int} {n f : Int} (h : OkP ps n) (h0 : 0 ≤ f) (h1 : f < ps.length) {x : Int × Int × Int × Int} : x ∈ innV ps cut n f ps.length ↔ ∃ k : Int, 0 ≤ k ∧ k < ps.length ∧ sAt ps k ∉ cut ∧ x = (headV n cut (sAt ps k), sAt ps k, gapV ps n k, wayV n cut (sAt ps k)) := by
  unfold innV outS
  constructor
  · intro hx
    obtain ⟨s, hs, rfl⟩ := List.mem_map.mp hx
    obtain ⟨a, b⟩ := List.mem_filter.mp hs
    have r := on_rg8 (f := f) (s := s) h.ne
    exact ⟨_, r.1, r.2, by simpa using b, rfl⟩
  · rintro ⟨k, k0, k1, kc, rfl⟩
    refine List.mem_map.mpr ⟨(k - f) % ps.length, List.mem_filter.mpr ⟨mem_rng.mpr ⟨Int.emod_nonneg _ (by omega), Int.emod_lt_of_pos _ (by omega)⟩, ?_⟩, ?_⟩
    all_goals
      have e : onI ps f ((k - f) % ps.length) = k := by
        unfold onI
        rw [Int.add_emod_emod, show f + (k - f) = k by omega, Int.emod_eq_of_lt k0 k1]
      rw [e]
    simpa using kc

/-! ### evenly spaced marks -/
def maxV : List Int → Int
  | [] => 0
  | x :: xs => xs.foldl max x
theorem maxVK {xs : List Int} (h : xs ≠ []) : maxI xs = .ok (maxV xs) ∧ maxV xs ∈ xs ∧ ∀ y ∈ xs, y ≤ maxV xs := by
  cases xs with
  | nil => exact absurd rfl h
  | cons x xs => exact ⟨rfl, foldl_max xs x⟩
def stepB (ps cut : List Int) (k : Int) : Bool := !decide (sAt cut k ∈ ps) || (decide (0 < k) && decide (sAt cut k ≤ sAt cut (k - 1)))
def spacedV (n : Int) (ps cut : List Int) : Bool := if cut = [] then false else if ((rng 0 cut.length).find? (stepB ps cut)).isSome = true then false else decide (minV (gapsV cut n) = maxV (gapsV cut n))
theorem spacedK {n : Int} {ps cut : List Int} (hn : 0 < n) (hl : cut.length ≤ 90000) : k_is_spaced (marksV n ps) cut = .ok (spacedV n ps cut) := by
  unfold k_is_spaced kc_is_spaced spacedV
  by_cases c : cut = []
  · subst c; rfl
  · have cl : 0 < cut.length := List.length_pos_iff.mpr c
    rw [if_neg (by simpa using c), if_neg c, rngK (by decide) (by decide) (by omega) (by omega), mbk, forM_ret (stepB (marksV n ps).2.1 cut) (fun _ => false)]
    · rw [show stepB (marksV n ps).2.1 cut = stepB ps cut from rfl]
      cases e : (rng 0 (cut.length : Int)).find? (stepB ps cut) with
      | some x => rfl
      | none =>
        rw [if_neg (by decide), sqk]
        have e1 : k_gaps_between cut (marksV n ps).1 = .ok (gapsV cut n) := gapsK hn hl
        have gl := gapsV_len cut n
        have gn : gapsV cut n ≠ [] := fun z => by rw [z] at gl; exact c (List.length_eq_zero_iff.mp gl.symm)
        rw [e1, mbk, (minVK gn).1, (maxVK gn).1]
        rfl
    · intro k hk
      obtain ⟨a, b⟩ := mem_rng.mp hk
      rw [ixS a b]
      simp only [mbk]
      unfold stepB
      by_cases q : sAt cut k ∈ (marksV n ps).2.1
      · rw [decide_eq_true q, if_neg (by decide)]
        by_cases z : 0 < k
        · rw [if_pos (decide_eq_true z), ixS (by omega) (by omega)]
          simp only [mbk, Bool.not_true, Bool.false_or, decide_eq_true z, Bool.true_and]
        · rw [if_neg (by simpa using z)]
          simp only [mbk, Bool.not_true, Bool.false_or, decide_eq_false z, Bool.false_and]
      · rw [decide_eq_false q, if_pos (by decide)]
        rfl
theorem spaced_in {n : Int} {ps cut : List Int} (h : spacedV n ps cut = true) : cut ≠ [] ∧ (∀ x ∈ cut, x ∈ ps) ∧ cut.Pairwise (· < ·) ∧ ∃ g, ∀ k : Int, 0 ≤ k → k < cut.length → gapV cut n k = g := by
  unfold spacedV at h
  by_cases c : cut = []
  · rw [if_pos c] at h; cases h
  · rw [if_neg c] at h
    by_cases q : ((rng 0 (cut.length : Int)).find? (stepB ps cut)).isSome = true
    · rw [if_pos q] at h; cases h
    · rw [if_neg q] at h
      have no : ∀ k ∈ rng 0 (cut.length : Int), stepB ps cut k = false := fun k hk => by
        have := List.find?_eq_none.mp (Option.not_isSome_iff_eq_none.mp q) k hk
        simpa using this
      have eq := of_decide_eq_true h
      refine ⟨c, fun x hx => ?_, ?_, minV (gapsV cut n), fun k k0 k1 => ?_⟩
      · obtain ⟨k, k0, k1, rfl⟩ := mem_sAt hx
        have := no k (mem_rng.mpr ⟨k0, k1⟩)
        unfold stepB at this
        rw [Bool.or_eq_false_iff] at this
        simpa using this.1
      · rw [List.pairwise_iff_getElem]
        have one : ∀ k : Nat, k + 1 < cut.length → sAt cut k < sAt cut (k + 1 : Nat) := fun k hk => by
          have := no ((k + 1 : Nat) : Int) (mem_rng.mpr ⟨by omega, by omega⟩)
          unfold stepB at this
          rw [Bool.or_eq_false_iff] at this
          have t := this.2
          rw [decide_eq_true (show (0 : Int) < ((k + 1 : Nat) : Int) by omega), Bool.true_and, decide_eq_false_iff_not, show (((k + 1 : Nat) : Int) - 1) = (k : Int) by omega] at t
          omega
        have go : ∀ (d k : Nat), k + d + 1 < cut.length → sAt cut k < sAt cut (k + d + 1 : Nat) := by
          intro d
          induction d with
          | zero => intro k hk; exact one k (by omega)
          | succ d ih =>
            intro k hk
            have a := ih k (by omega)
            have b := one (k + d + 1) (by omega)
            rw [show k + (d + 1) + 1 = k + d + 1 + 1 by omega]
            omega
        intro i j hi hj hij
        have := go (j - i - 1) i (by omega)
        rw [show i + (j - i - 1) + 1 = j by omega] at this
        unfold sAt at this
        rw [List.getD_eq_getElem?_getD, List.getD_eq_getElem?_getD, Int.toNat_natCast, Int.toNat_natCast, List.getElem?_eq_getElem hi, List.getElem?_eq_getElem hj] at this
        exact this
      · have gl := gapsV_len cut n
        have gn : gapsV cut n ≠ [] := fun z => by rw [z] at gl; exact c (List.length_eq_zero_iff.mp gl.symm)
        have m := (mem_gaps (ps := cut) (n := n)).mpr ⟨k, k0, k1, rfl⟩
        have a := (minVK gn).2.2 _ m
        have b := (maxVK gn).2.2 _ m
        omega
/-! ### what a cut lacks -/
def faultV (ps cut : List Int) (n f : Int) : Option (PySem.Str × Int × Int) := ((innV ps cut n f ps.length).find? fun x => decide (x.2.2.2 ≤ x.2.2.1)).map fun x => (("blocked" : PySem.Str), x.1, x.2.1)
theorem inn_len (ps cut : List Int) (n f : Int) : (innV ps cut n f ps.length).length ≤ ps.length := by
  unfold innV outS
  rw [List.length_map]
  refine Nat.le_trans (List.length_filter_le _ _) ?_
  rw [rng_len]; omega
theorem faultK {n : Int} {ps cut : List Int} (h : OkP ps n) (hb : ps.length ≤ 80000) (hl : cut.length ≤ 90000) (hs : spacedV n ps cut = true) : ∃ f : Int, 0 ≤ f ∧ f < ps.length ∧ sAt ps f = sAt cut 0 ∧ k_inner_marks (marksV n ps) cut = .ok (innV ps cut n f ps.length) ∧ k_mark_fault (marksV n ps) cut = .ok (faultV ps cut n f) := by
  obtain ⟨ne, hc, _, _⟩ := spaced_in hs
  obtain ⟨f, h0, h1, ef, ei⟩ := innerK h hb ne hc
  refine ⟨f, h0, h1, ef, ei, ?_⟩
  have e : k_check_end (marksV n ps) cut = .ok cut := by
    unfold k_check_end kc_check_end
    rw [spacedK h.pos hl, hs]
    rfl
  unfold k_mark_fault kc_mark_fault faultV
  rw [e, mbk, ei, mbk, forM_ret (fun x : Int × Int × Int × Int => decide (x.2.2.2 ≤ x.2.2.1)) (fun x => some (("blocked" : PySem.Str), x.1, x.2.1))]
  · cases (innV ps cut n f ps.length).find? fun x => decide (x.2.2.2 ≤ x.2.2.1) with
    | none => rfl
    | some x => rfl
  · intro x hx; rfl
def hadB (n : Int) (ps cut : List Int) : Bool := (rng 0 ps.length).all fun k => decide (sAt ps k ∈ cut) || decide (gapV ps n k < wayV n cut (sAt ps k))
theorem had_iff {n : Int} {ps cut : List Int} : hadB n ps cut = true ↔ ∀ k : Int, 0 ≤ k → k < ps.length → sAt ps k ∉ cut → gapV ps n k < wayV n cut (sAt ps k) := by
  unfold hadB
  rw [List.all_eq_true]
  constructor
  · intro h k k0 k1 kc
    have := h k (mem_rng.mpr ⟨k0, k1⟩)
    simpa [kc] using this
  · intro h k hk
    obtain ⟨k0, k1⟩ := mem_rng.mp hk
    by_cases kc : sAt ps k ∈ cut
    · simp [kc]
    · simp [h k k0 k1 kc]
theorem fault_none {n f : Int} {ps cut : List Int} (h : OkP ps n) (h0 : 0 ≤ f) (h1 : f < ps.length) : (faultV ps cut n f).isNone = hadB n ps cut := by
  rw [Bool.eq_iff_iff, had_iff]
  unfold faultV
  rw [Option.isNone_map, Option.isNone_iff_eq_none, List.find?_eq_none]
  constructor
  · intro q k k0 k1 kc
    have := q _ ((mem_inn h h0 h1).mpr ⟨k, k0, k1, kc, rfl⟩)
    simpa using this
  · intro q x hx
    obtain ⟨k, k0, k1, kc, rfl⟩ := (mem_inn h h0 h1).mp hx
    have := q k k0 k1 kc
    simpa using this
/-! ### all evenly spaced marks -/
def cutV (a m f : Int) : List Int := (rng 0 m).map fun k => f + a * k
theorem cutV_len (a m f : Int) : (cutV a m f).length = m.toNat := by unfold cutV; rw [List.length_map, rng_len]; omega
theorem sAt_map {g : Int → Int} {m k : Int} (h0 : 0 ≤ k) (h1 : k < m) : sAt ((rng 0 m).map g) k = g k := by
  unfold sAt
  rw [List.getD_eq_getElem?_getD, List.getElem?_map, rng_get (by omega), Option.map_some, Option.getD_some]
  congr 1
  omega
theorem cutV_at {a m f k : Int} (h0 : 0 ≤ k) (h1 : k < m) : sAt (cutV a m f) k = f + a * k := sAt_map h0 h1
theorem cutV_gap {a m f n k : Int} (ha : 0 < a) (e : n = a * m) (h0 : 0 ≤ k) (h1 : k < m) : gapV (cutV a m f) n k = a := by
  unfold gapV
  rw [cutV_len, show ((m.toNat : Nat) : Int) = m by omega, cutV_at h0 h1]
  by_cases c : k + 1 < m
  · rw [Int.emod_eq_of_lt (by omega) c, cutV_at (by omega) c, Int.mul_add]
    have : a ≤ n := by
      rw [e]
      have := Int.mul_le_mul_of_nonneg_left (show (1 : Int) ≤ m by omega) (show 0 ≤ a by omega)
      omega
    rw [show f + (a * k + a * 1) - (f + a * k) - 1 = a - 1 by omega, Int.emod_eq_of_lt (by omega) (by omega)]
    omega
  · rw [show k + 1 = m by omega, Int.emod_self, cutV_at (by omega) (by omega)]
    have e2 : a * m = a * k + a := by rw [show m = k + 1 by omega, Int.mul_add, Int.mul_one]
    have : 0 ≤ a * k := Int.mul_nonneg (by omega) h0
    rw [show f + a * 0 - (f + a * k) - 1 = (a - 1) - n by rw [e, e2]; omega, Int.sub_emod_right, Int.emod_eq_of_lt (by omega) (by omega)]
    omega
theorem cutV_asc {a m f : Int} (ha : 0 < a) : (cutV a m f).Pairwise (· < ·) := by
  unfold cutV
  rw [List.pairwise_map]
  refine (rng_sorted m).imp fun {x y} h => ?_
  have := Int.mul_lt_mul_of_pos_left h ha
  omega
theorem cutV_spaced {a m f n : Int} {ps : List Int} (ha : 0 < a) (hm : 1 ≤ m) (e : n = a * m) : spacedV n ps (cutV a m f) = (cutV a m f).all fun x => decide (x ∈ ps) := by
  have cl := cutV_len a m f
  have ne : cutV a m f ≠ [] := fun z => by rw [z] at cl; simp at cl; omega
  unfold spacedV
  rw [if_neg ne]
  have eg : minV (gapsV (cutV a m f) n) = maxV (gapsV (cutV a m f) n) := by
    have gl := gapsV_len (cutV a m f) n
    have gn : gapsV (cutV a m f) n ≠ [] := fun z => by rw [z, cl] at gl; simp at gl; omega
    have all : ∀ g ∈ gapsV (cutV a m f) n, g = a := fun g hg => by
      obtain ⟨k, k0, k1, rfl⟩ := mem_gaps.mp hg
      exact cutV_gap ha e k0 (by rw [cl] at k1; omega)
    rw [all _ (minVK gn).2.1, all _ (maxVK gn).2.1]
  rw [decide_eq_true eg]
  by_cases q : (cutV a m f).all (fun x => decide (x ∈ ps)) = true
  · rw [q, if_neg]
    rw [Bool.not_eq_true, Option.isSome_eq_false_iff, Option.isNone_iff_eq_none, List.find?_eq_none]
    intro k hk
    obtain ⟨k0, k1⟩ := mem_rng.mp hk
    have m1 := of_decide_eq_true (List.all_eq_true.mp q _ (sAt_mem k0 k1))
    unfold stepB
    rw [decide_eq_true m1]
    by_cases z : 0 < k
    · have := asc_lt (cutV_asc ha) (show 0 ≤ k - 1 by omega) (show k - 1 < k by omega) k1
      simp; omega
    · simp; omega
  · rw [Bool.not_eq_true] at q
    rw [q, if_pos]
    rw [List.all_eq_false] at q
    obtain ⟨x, hx, hq⟩ := q
    obtain ⟨k, k0, k1, rfl⟩ := mem_sAt hx
    rw [List.find?_isSome]
    refine ⟨k, mem_rng.mpr ⟨k0, k1⟩, ?_⟩
    unfold stepB
    have : ¬ sAt (cutV a m f) k ∈ ps := by simpa using hq
    simp [this]
def cutsV (n : Int) (ps : List Int) (m : Int) : List (List Int) := (((ps.filter fun f => decide (f < n / m)).map fun f => cutV (n / m) m f)).filter fun c => c.all fun x => decide (x ∈ ps)
def evenV (n : Int) (ps : List Int) : List (List Int) := (rng 1 (ps.length + 1)).flatMap fun m => if n % m = 0 then cutsV n ps m else []
theorem forM_apps {α β ρ δ : Type} {f : α → List β → M (Out (List β) (List β) ρ)} {h : α → List β} {C : Nat} : ∀ {xs : List α} {s0 : List β}, (∀ x ∈ xs, ∀ s : List β, s.length + C ≤ 800000 → f x s = .ok (.nx (s ++ h x))) → (∀ x ∈ xs, (h x).length ≤ C) → s0.length + xs.length * C ≤ 800000 → (forM f xs s0 : M (Out (List β) δ ρ)) = .ok (.nx (s0 ++ xs.flatMap h))
  | [], s0, _, _, _ => by simp [forM]
  | x :: xs, s0, hf, hc, hl => by
    rw [List.length_cons, Nat.succ_mul] at hl
    have c1 := hc x List.mem_cons_self
    unfold forM
    rw [hf x List.mem_cons_self s0 (by omega)]
    simp only
    rw [forM_apps (fun y hy => hf y (List.mem_cons_of_mem _ hy)) (fun y hy => hc y (List.mem_cons_of_mem _ hy)) (by rw [List.length_append]; omega), List.flatMap_cons, List.append_assoc]
theorem flatMap_filter' {α β : Type} {q : α → Bool} {h : α → List β} : ∀ xs : List α, (xs.filter q).flatMap h = xs.flatMap fun x => if q x = true then h x else []
  | [] => rfl
  | x :: xs => by
    rw [List.flatMap_cons, List.filter_cons]
    by_cases c : q x = true
    · rw [if_pos c, if_pos c, List.flatMap_cons, flatMap_filter' xs]
    · rw [if_neg c, if_neg c, List.nil_append, flatMap_filter' xs]
theorem cuts_len (n : Int) (ps : List Int) (m : Int) : (cutsV n ps m).length ≤ ps.length := by
  unfold cutsV
  refine Nat.le_trans (List.length_filter_le _ _) ?_
  rw [List.length_map]
  exact List.length_filter_le _ _
theorem mul_div {n m : Int} (hm : 1 ≤ m) (e : n % m = 0) : n = n / m * m := by
  have := Int.emod_add_mul_ediv n m
  rw [Int.mul_comm] at this
  omega
theorem lawEvenK {n : Int} {ps : List Int} (h : OkP ps n) (hn : n ≤ 800) (hl : ps.length ≤ 800) : k__law_even n ps = .ok (evenV n ps) := by
  have n0 := h.pos
  unfold k__law_even kc__law_even
  rw [rngK (by decide) (by decide) (by omega) (by omega), mbk, lcK (fun m => decide (n % m = 0)) (fun m => m) (by rw [rng_len]; omega) (fun m hm => by
    have := mem_rng.mp hm
    rw [modK (by omega)]
    rfl) (fun _ _ => rfl), List.map_id', mbk, forM_apps (h := cutsV n ps) (C := ps.length)]
  · rw [sqk, List.nil_append, flatMap_filter']
    show M.ok _ = M.ok _
    congr 1
    unfold evenV
    congr 1
    funext m
    simp only [decide_eq_true_eq]
  · intro m hm s hs
    obtain ⟨a, b⟩ := List.mem_filter.mp hm
    have := mem_rng.mp a
    have e := mul_div (n := n) (m := m) (by omega) (of_decide_eq_true b)
    have dn : n / m ≤ n := Int.ediv_le_self _ (by omega)
    have d0 : 0 ≤ n / m := Int.ediv_nonneg (by omega) (by omega)
    rw [divK (by omega) (by omega), mbk, lcK (fun f => decide (f < n / m)) (fun f => f) (by omega) (fun _ _ => rfl) (fun _ _ => rfl), List.map_id', mbk, forM_filtM (q := fun f => (cutV (n / m) m f).all fun x => decide (x ∈ ps)) (g := fun f => cutV (n / m) m f)]
    · rw [sqk]
      unfold cutsV
      rw [List.filter_map]
      rfl
    · intro f hf t ht
      rw [rngK (by decide) (by decide) (by omega) (by omega), mbk, mapC_ok (g := fun k => f + n / m * k) (lineK (by rw [rng_len]; omega)) (fun k hk => by
        rw [mulL (by omega)]
        rfl), mbk]
      show mb (mb (lcM (fun x => .ok (!decide (x ∈ ps))) (fun x => .ok x) (cutV (n / m) m f)) fun v => .ok (decide (v = ([] : List Int)))) _ = _
      rw [lcK (fun x => !decide (x ∈ ps)) (fun x => x) (by rw [cutV_len]; omega) (fun _ _ => rfl) (fun _ _ => rfl), List.map_id', mbk, mbk]
      by_cases c : (cutV (n / m) m f).all (fun x => decide (x ∈ ps)) = true
      · have : (cutV (n / m) m f).filter (fun x => !decide (x ∈ ps)) = [] := List.filter_eq_nil_iff.mpr fun x hx => by simpa using List.all_eq_true.mp c x hx
        rw [if_pos (decide_eq_true this), if_pos c, appK (by omega)]
        rfl
      · have : (cutV (n / m) m f).filter (fun x => !decide (x ∈ ps)) ≠ [] := fun z => c (List.all_eq_true.mpr fun x hx => by
          have := List.filter_eq_nil_iff.mp z x hx
          simpa using this)
        rw [if_neg (by simpa using this), if_neg c]
    · have := List.length_filter_le (fun f => decide (f < n / m)) ps
      omega
  · intro m hm; exact cuts_len n ps m
  · have a := List.length_filter_le (fun m => decide (n % m = 0)) (rng 1 ((ps.length : Int) + 1))
    rw [rng_len] at a
    have := Nat.mul_le_mul (show ((rng 1 ((ps.length : Int) + 1)).filter fun m => decide (n % m = 0)).length ≤ 800 by omega) hl
    rw [List.length_nil]
    omega
theorem mem_even {n : Int} {ps c : List Int} (h : OkP ps n) : c ∈ evenV n ps ↔ ∃ m f : Int, 1 ≤ m ∧ m ≤ ps.length ∧ n % m = 0 ∧ f ∈ ps ∧ f < n / m ∧ c = cutV (n / m) m f ∧ ∀ x ∈ c, x ∈ ps := by
  unfold evenV
  rw [List.mem_flatMap]
  constructor
  · rintro ⟨m, hm, hc⟩
    have := mem_rng.mp hm
    by_cases e : n % m = 0
    · rw [if_pos e] at hc
      unfold cutsV at hc
      obtain ⟨a, b⟩ := List.mem_filter.mp hc
      obtain ⟨f, hf, rfl⟩ := List.mem_map.mp a
      obtain ⟨f1, f2⟩ := List.mem_filter.mp hf
      exact ⟨m, f, by omega, by omega, e, f1, of_decide_eq_true f2, rfl, fun x hx => of_decide_eq_true (List.all_eq_true.mp b x hx)⟩
    · rw [if_neg e] at hc; cases hc
  · rintro ⟨m, f, m1, m2, e, f1, f2, rfl, hx⟩
    refine ⟨m, mem_rng.mpr ⟨m1, by omega⟩, ?_⟩
    rw [if_pos e]
    exact List.mem_filter.mpr ⟨List.mem_map.mpr ⟨f, List.mem_filter.mpr ⟨f1, decide_eq_true f2⟩, rfl⟩, List.all_eq_true.mpr fun x hxx => decide_eq_true (hx x hxx)⟩
theorem even_spaced {n : Int} {ps c : List Int} (h : OkP ps n) (hc : c ∈ evenV n ps) : spacedV n ps c = true ∧ c.length ≤ ps.length ∧ c ≠ [] := by
  obtain ⟨m, f, m1, m2, e, f1, f2, rfl, hx⟩ := (mem_even h).mp hc
  have rf := h.rg f f1
  have e2 := mul_div m1 e
  have cl := cutV_len (n / m) m f
  refine ⟨?_, by rw [cl]; omega, fun z => by rw [z] at cl; simp at cl; omega⟩
  rw [cutV_spaced (by omega) m1 e2]
  exact List.all_eq_true.mpr fun x hxx => decide_eq_true (hx x hxx)
def dueV (n : Int) (ps : List Int) : List (List Int) := (evenV n ps).filter fun c => hadB n ps c
theorem endsK {n : Int} {ps : List Int} (h : OkP ps n) (hn : n ≤ 800) (hl : ps.length ≤ 800) : k_mark_ends (marksV n ps) = .ok (dueV n ps) := by
  have n0 := h.pos
  unfold k_mark_ends kc_mark_ends
  rw [show ((marksV n ps).2.1.length : Int) = (ps.length : Int) from rfl, rngK (by decide) (by decide) (by omega) (by omega), mbk, forM_apps (h := fun m => if n % m = 0 then (cutsV n ps m).filter fun c => hadB n ps c else []) (C := ps.length)]
  · rw [sqk, List.nil_append]
    show M.ok _ = M.ok _
    congr 1
    unfold dueV evenV
    rw [List.filter_flatMap]
    congr 1
    funext m
    split <;> simp
  · intro m hm s hs
    have := mem_rng.mp hm
    rw [show (marksV n ps).1 = n from rfl, modK (by omega), mbk, mbk]
    by_cases c0 : n % m = 0
    · rw [if_pos (decide_eq_true c0), if_pos c0]
      have e := mul_div (n := n) (m := m) (by omega) c0
      have dn : n / m ≤ n := Int.ediv_le_self _ (by omega)
      have d0 : 0 ≤ n / m := Int.ediv_nonneg (by omega) (by omega)
      rw [divK (by omega) (by omega), mbk, show (marksV n ps).2.1 = ps from rfl, lcK (fun f => decide (f < n / m)) (fun f => f) (by omega) (fun _ _ => rfl) (fun _ _ => rfl), List.map_id', mbk, forM_filtM (q := fun f => (cutV (n / m) m f).all (fun x => decide (x ∈ ps)) && hadB n ps (cutV (n / m) m f)) (g := fun f => cutV (n / m) m f)]
      · rw [sqk]
        unfold cutsV
        rw [List.filter_map, List.filter_map]
        have fe : ∀ xs : List Int, xs.filter (fun f => (cutV (n / m) m f).all (fun x => decide (x ∈ ps)) && hadB n ps (cutV (n / m) m f)) = (xs.filter ((fun c => c.all fun x => decide (x ∈ ps)) ∘ fun f => cutV (n / m) m f)).filter ((fun c => hadB n ps c) ∘ fun f => cutV (n / m) m f) := fun xs => by
          rw [List.filter_filter]
          congr 1
          funext f
          exact Bool.and_comm _ _
        rw [fe]
      · intro f hf t ht
        have hf1 := (List.mem_filter.mp hf).1
        have hf2 := of_decide_eq_true (List.mem_filter.mp hf).2
        have rf := h.rg f hf1
        rw [rngK (by decide) (by decide) (by omega) (by omega), mbk, mapC_ok (g := fun k => f + n / m * k) (lineK (by rw [rng_len]; omega)) (fun k hk => by
          rw [mulL (by omega)]
          rfl), mbk]
        rw [show (rng 0 m).map (fun k => f + n / m * k) = cutV (n / m) m f from rfl, spacedK n0 (by rw [cutV_len]; omega), cutV_spaced (by omega) (by omega) e, mbk]
        by_cases c : (cutV (n / m) m f).all (fun x => decide (x ∈ ps)) = true
        · obtain ⟨f0, p0, p1, _, _, e4⟩ := faultK (cut := cutV (n / m) m f) h (by omega) (by rw [cutV_len]; omega) (by rw [cutV_spaced (by omega) (by omega) e]; exact c)
          rw [if_pos c, e4, mbk, fault_none h p0 p1, mbk, c, Bool.true_and]
          by_cases c2 : hadB n ps (cutV (n / m) m f) = true
          · rw [if_pos c2, if_pos c2, appK (by omega)]; rfl
          · rw [if_neg c2, if_neg c2]
        · rw [if_neg c, mbk, if_neg (by decide)]
          rw [Bool.not_eq_true] at c
          rw [c, Bool.false_and, if_neg (by decide)]
      · have := List.length_filter_le (fun f => decide (f < n / m)) ps
        omega
    · rw [if_neg (by simpa using c0), if_neg c0, List.append_nil]
  · intro m hm
    show (if n % m = 0 then _ else _ : List (List Int)).length ≤ _
    split
    · exact Nat.le_trans (List.length_filter_le _ _) (cuts_len n ps m)
    · simp
  · rw [rng_len, List.length_nil]
    have := Nat.mul_le_mul (show ((ps.length : Int) + 1 - 1).toNat ≤ 800 by omega) hl
    omega

/-! ### one wiping, told by the marks -/
theorem dV_inj {n p x y : Int} (hx : 0 ≤ x ∧ x < n) (hy : 0 ≤ y ∧ y < n) (h : dV n p x = dV n p y) : x = y := by
  unfold dV at h; split at h <;> split at h <;> omega
theorem next_char {qs : List Int} {n k x : Int} (o : OkP qs n) (k0 : 0 ≤ k) (k1 : k < qs.length) (hx : x ∈ qs) (m : ∀ y ∈ qs, dV n (sAt qs k) x ≤ dV n (sAt qs k) y) : sAt qs (nxI qs k) = x := by
  have nk := nx_rg k0 k1
  have mn := sAt_mem (xs := qs) nk.1 nk.2
  have a := m _ mn
  have b := gap_least o k0 k1 hx
  rw [gap_dV o k0 k1] at b
  exact dV_inj (o.rg _ mn) (o.rg _ hx) (Int.le_antisymm b a)
def remV (qs : List Int) (x : Int) : List Int := qs.filter fun y => !decide (y = x)
theorem left_rem {qs : List Int} {j : Int} (h : qs.Pairwise (· < ·)) (j0 : 0 ≤ j) (j1 : j < qs.length) : leftA qs j = remV qs (sAt qs j) := by
  have hl : j.toNat < qs.length := by omega
  have ex : sAt qs j = qs[j.toNat] := by
    unfold sAt
    rw [List.getD_eq_getElem?_getD, List.getElem?_eq_getElem hl]
    rfl
  have e : qs = qs.take j.toNat ++ qs[j.toNat] :: qs.drop (j.toNat + 1) := by
    rw [← List.drop_eq_getElem_cons hl, List.take_append_drop]
  rw [ex]
  have h2 := h
  rw [e, List.pairwise_append, List.pairwise_cons] at h2
  obtain ⟨_, ⟨h3, _⟩, h4⟩ := h2
  unfold remV
  conv => rhs; arg 2; rw [e]
  rw [List.filter_append, List.filter_cons_of_neg (by simp), List.filter_eq_self.mpr fun y hy => by
    have := h4 y hy _ List.mem_cons_self
    simp; omega, List.filter_eq_self.mpr fun y hy => by
    have := h3 y hy
    simp; omega]
  rfl
theorem wipe_at {qs : List Int} {n h x z : Int} (o : OkP qs n) (hh : h ∈ qs) (hx : x ∈ qs) (m1 : ∀ y ∈ qs, dV n h x ≤ dV n h y) (hz : z ∈ qs) (m2 : ∀ y ∈ qs, dV n x z ≤ dV n x y) (lt : dV n x z < dV n h x) : h ∈ wipV qs n ∧ k__law_left qs h = .ok (remV qs x) ∧ OkP (remV qs x) n := by
  obtain ⟨k, k0, k1, rfl⟩ := mem_sAt hh
  have ex := next_char o k0 k1 hx m1
  have nk := nx_rg k0 k1
  have ez := next_char o nk.1 nk.2 hz (by rw [ex]; exact m2)
  have hk : k ∈ wiI qs n := by
    refine List.mem_filter.mpr ⟨mem_rng.mpr ⟨k0, k1⟩, decide_eq_true ?_⟩
    rw [gap_dV o k0 k1, gap_dV o nk.1 nk.2, ez, ex]
    exact lt
  have er := left_rem o.asc nk.1 nk.2
  rw [ex] at er
  refine ⟨List.mem_map.mpr ⟨k, hk, rfl⟩, ?_, ?_⟩
  · rw [lawLeftK o hk, er]
  · rw [← er]; exact left_ok o hk
/-! ### the plan leaves the cut -/
def wipB (n : Int) (place676 : Int) (s675 : List Int) : M (Out (List Int) (List Int) Bool) :=
    mb (mb (mb (k__law_is_integer place676) fun v677 => (.ok (!v677))) fun v679 => if v679 = true then .ok true else mb (k__law_wipers s675 n) fun v678 => (.ok (!decide (place676 ∈ v678)))) fun v681 => if v681 = true then .ok (.rt false)
    else mb (k__law_left s675 place676) fun left680 =>
    .ok (.nx left680)
theorem wipB_ok {n h : Int} {qs rs : List Int} (o : OkP qs n) (hw : h ∈ wipV qs n) (hl : k__law_left qs h = .ok rs) : wipB n h qs = .ok (.nx rs) := by
  unfold wipB
  rw [isintK, mbk, mbk, if_neg (by decide), lawWipersK o, mbk, decide_eq_true hw, mbk, if_neg (by decide), hl]
  rfl
theorem forM_nx8 {α γ δ ρ : Type} {f : α → γ → M (Out γ γ ρ)} {x : α} {xs : List α} {s t : γ} (h : f x s = .ok (.nx t)) : (forM f (x :: xs) s : M (Out γ δ ρ)) = forM f xs t := by
  conv => lhs; unfold forM
  rw [h]
theorem forM_bk8 {α γ δ ρ : Type} {f : α → γ → M (Out γ γ ρ)} {x : α} {xs : List α} {s t : γ} (h : f x s = .ok (.bk t)) : (forM f (x :: xs) s : M (Out γ δ ρ)) = .ok (.nx t) := by
  unfold forM
  rw [h]
theorem head_eq {n h x : Int} {cut : List Int} (rh : 0 ≤ h ∧ h < n) (rx : 0 ≤ x ∧ x < n) (e : wayV n cut x = dV n h x) : headV n cut x = h := by
  unfold headV
  rw [e]
  exact dV_back rh rx
theorem filter_rem (ps pre : List Int) (x : Int) : remV (ps.filter fun y => !decide (y ∈ pre)) x = ps.filter fun y => !decide (y ∈ pre ++ [x]) := by
  unfold remV
  rw [List.filter_filter]
  congr 1
  funext y
  by_cases a : y = x
  · simp [a]
  · by_cases b : y ∈ pre <;> simp [a, b]
theorem planLoop {δ : Type} {ps cut : List Int} {n c : Int} (o : OkP ps n) (hc : ∀ x ∈ cut, x ∈ ps) (cc : c ∈ cut) (had : hadB n ps cut = true) : ∀ (post pre : List Int), (pre ++ post).Pairwise (fun x y => offV n c x < offV n c y) → (∀ y, y ∈ pre ++ post ↔ y ∈ ps ∧ y ∉ cut) →
    (forM (wipB n) (post.map (headV n cut)) (ps.filter fun y => !decide (y ∈ pre)) : M (Out (List Int) δ Bool)) = .ok (.nx (ps.filter fun y => !decide (y ∈ pre ++ post)))
  | [], pre, _, _ => by rw [List.append_nil]; rfl
  | x :: post, pre, pw, hm => by
    obtain ⟨px, xc⟩ := (hm x).mp (by simp)
    have rc := o.rg c (hc c cc)
    have rx := o.rg x px
    have rcut : ∀ y ∈ cut, 0 ≤ y ∧ y < n := fun y hy => o.rg y (hc y hy)
    obtain ⟨h, hh, ew, em⟩ := way_at rcut rx xc (List.ne_nil_of_mem cc)
    have rh := rcut h hh
    have eh := head_eq rh rx ew
    have outc : ∀ y ∈ cut, y ∉ pre := fun y hy z => ((hm y).mp (by simp [z])).2 hy
    have oq : OkP (ps.filter fun y => !decide (y ∈ pre)) n := ⟨List.ne_nil_of_mem (a := c) (List.mem_filter.mpr ⟨hc c cc, by simp [outc c cc]⟩), o.asc.filter _, fun p hp => o.rg p (List.mem_filter.mp hp).1, Nat.le_trans (List.length_filter_le _ _) o.big⟩
    obtain ⟨pw1, pw2, pw3⟩ := List.pairwise_append.mp pw
    rw [List.pairwise_cons] at pw2
    have xp : x ∉ pre := fun z => by
      have := pw3 x z x List.mem_cons_self
      omega
    have ohx : offV n c h < offV n c x := by
      have a := em c cc
      have ro := off_rg rc rh
      have rox := off_rg rc rx
      have oc : offV n c c = 0 := by unfold offV; rw [if_pos (Int.le_refl _)]; omega
      have nx0 : offV n c x ≠ 0 := fun z => xc (by rw [off_inj rc rx rc (by rw [z, oc])]; exact cc)
      rw [off_dV rc rh rx, off_dV rc rc rx, oc, if_pos (show 0 < offV n c x by omega)] at a
      split at a <;> omega
    obtain ⟨k, k0, k1, ek⟩ := mem_sAt px
    have nk := nx_rg k0 k1
    have pz := sAt_mem (xs := ps) nk.1 nk.2
    have hg := gap_pos (ps := ps) (n := n) (k := k) o.pos
    have hlt := had_iff.mp had k k0 k1 (by rw [← ek]; exact xc)
    rw [← ek, ew] at hlt
    have zp : sAt ps (nxI ps k) ∉ pre := fun z => by
      have a := pw3 _ z x List.mem_cons_self
      have zc := ((hm (sAt ps (nxI ps k))).mp (List.mem_append_left _ z)).2
      have b := off_next o (hc c cc) k0 k1 (fun e => zc (by rw [e]; exact cc))
      rw [← ek] at b
      omega
    have hw := wipe_at (h := h) (x := x) (z := sAt ps (nxI ps k)) oq (List.mem_filter.mpr ⟨hc h hh, by simp [outc h hh]⟩) (List.mem_filter.mpr ⟨px, by simp [xp]⟩) (fun y hy => ?_) (List.mem_filter.mpr ⟨pz, by simp [zp]⟩) (fun y hy => ?_) ?_
    · rw [List.map_cons, eh, forM_nx8 (wipB_ok oq hw.1 hw.2.1), filter_rem]
      have := planLoop (δ := δ) o hc cc had post (pre ++ [x]) (by simpa using pw) (by simpa using hm)
      simpa using this
    · obtain ⟨y1, y2⟩ := List.mem_filter.mp hy
      have y3 : y ∉ pre := by simpa using y2
      have ry := o.rg y y1
      apply Classical.byContradiction
      intro no
      by_cases yc : y ∈ cut
      · have a := em y yc
        have yx : y ≠ x := fun e => xc (e ▸ yc)
        have b := dV_add rh ry rx (by omega) yx
        have d := dV_pos rh ry
        omega
      · rcases List.mem_append.mp ((hm y).mpr ⟨y1, yc⟩) with q | q
        · exact y3 q
        · rcases List.mem_cons.mp q with q | q
          · rw [q] at no; omega
          · have a := pw2.1 y q
            rw [off_dV rc rh rx, off_dV rc rh ry, if_pos ohx, if_pos (by omega)] at no
            omega
    · obtain ⟨y1, _⟩ := List.mem_filter.mp hy
      have a := gap_least o k0 k1 y1
      rw [gap_dV o k0 k1, ← ek] at a
      exact a
    · rw [gap_dV o k0 k1, ← ek] at hlt
      exact hlt
/-! ### at rest -/
theorem rest_even {qs : List Int} {n : Int} (o : OkP qs n) (hr : wipV qs n = []) : ∃ g, ∀ k : Int, 0 ≤ k → k < qs.length → gapV qs n k = g := by
  have no : ∀ k : Int, 0 ≤ k → k < qs.length → ¬ gapV qs n (nxI qs k) < gapV qs n k := fun k k0 k1 lt => by
    have : sAt qs k ∈ wipV qs n := List.mem_map.mpr ⟨k, List.mem_filter.mpr ⟨mem_rng.mpr ⟨k0, k1⟩, decide_eq_true lt⟩, rfl⟩
    rw [hr] at this
    cases this
  have e : keptV qs n = qs := Classical.byContradiction fun ne => by
    obtain ⟨k, k0, k1, a, b⟩ := kept_edge o ne
    have nk := nx_rg k0 k1
    have := (maxGK (n := n) o.ne).2.2 _ (mem_gaps.mpr ⟨nxI qs k, nk.1, nk.2, rfl⟩)
    exact no k k0 k1 (by omega)
  refine ⟨maxG qs n, fun k k0 k1 => ?_⟩
  have m : sAt qs k ∈ keptV qs n := by rw [e]; exact sAt_mem k0 k1
  obtain ⟨j, j0, j1, a, b⟩ := mem_kept.mp m
  rw [sAt_inj o.asc k0 k1 j0 j1 b]
  exact a
theorem even_rest {qs : List Int} {n g : Int} (h : ∀ k : Int, 0 ≤ k → k < qs.length → gapV qs n k = g) : wipV qs n = [] := by
  unfold wipV wiI
  rw [List.filter_eq_nil_iff.mpr]
  · rfl
  · intro k hk
    obtain ⟨k0, k1⟩ := mem_rng.mp hk
    have nk := nx_rg k0 k1
    rw [h k k0 k1, h _ nk.1 nk.2]
    simp
theorem even_form {qs : List Int} {n g : Int} (o : OkP qs n) (h : ∀ k : Int, 0 ≤ k → k < qs.length → gapV qs n k = g) : qs = cutV g qs.length (sAt qs 0) ∧ n = g * qs.length ∧ sAt qs 0 < g ∧ 1 ≤ g := by
  have ql : 0 < qs.length := List.length_pos_iff.mpr o.ne
  have g1 : 1 ≤ g := by
    have := gap_pos (ps := qs) (n := n) (k := 0) o.pos
    rw [h 0 (by decide) (by omega)] at this
    exact this.1
  have st : ∀ k : Nat, k < qs.length → sAt qs k = sAt qs 0 + g * k := by
    intro k
    induction k with
    | zero => intro _; show sAt qs 0 = _; omega
    | succ k ih =>
      intro hk
      have a := ih (by omega)
      have b := h k (by omega) (by omega)
      rw [gap_dV o (by omega) (by omega), nx_if (by omega) (by omega), if_pos (by omega)] at b
      have lt := asc_lt o.asc (show (0 : Int) ≤ (k : Int) by omega) (show (k : Int) < (k : Int) + 1 by omega) (by omega)
      unfold dV at b
      rw [if_pos lt] at b
      have e : g * ((k + 1 : Nat) : Int) = g * k + g := by rw [show ((k + 1 : Nat) : Int) = (k : Int) + 1 by omega, Int.mul_add, Int.mul_one]
      rw [e, show (((k + 1 : Nat)) : Int) = (k : Int) + 1 by omega]
      omega
  have en : n = g * qs.length := by
    have a := h (qs.length - 1 : Nat) (by omega) (by omega)
    have b := st (qs.length - 1) (by omega)
    rw [gap_dV o (by omega) (by omega), nx_if (by omega) (by omega), if_neg (by omega)] at a
    have le : sAt qs 0 ≤ sAt qs (qs.length - 1 : Nat) := by
      rw [b]
      have := Int.mul_nonneg (show 0 ≤ g by omega) (show (0 : Int) ≤ ((qs.length - 1 : Nat) : Int) by omega)
      omega
    unfold dV at a
    rw [if_neg (by omega)] at a
    have e : g * (qs.length : Int) = g * ((qs.length - 1 : Nat) : Int) + g := by rw [show (qs.length : Int) = ((qs.length - 1 : Nat) : Int) + 1 by omega, Int.mul_add, Int.mul_one]
    omega
  refine ⟨sAt_ext (by rw [cutV_len]; omega) fun k k0 k1 => ?_, en, ?_, g1⟩
  · rw [cutV_at k0 (by omega)]
    have := st k.toNat (by omega)
    rwa [show ((k.toNat : Nat) : Int) = k by omega] at this
  · have a := st (qs.length - 1) (by omega)
    have b := o.rg _ (sAt_mem (xs := qs) (i := ((qs.length - 1 : Nat) : Int)) (by omega) (by omega))
    have e : g * (qs.length : Int) = g * ((qs.length - 1 : Nat) : Int) + g := by rw [show (qs.length : Int) = ((qs.length - 1 : Nat) : Int) + 1 by omega, Int.mul_add, Int.mul_one]
    omega
/-! ### plays -/
structure PlayI (n : Int) (ps L : List Int) : Prop where
  ok : OkP L n
  sl : L.Sublist ps
  had : ∀ k : Int, 0 ≤ k → k < ps.length → sAt ps k ∉ L → ∀ h ∈ L, gapV ps n k < dV n h (sAt ps k)
theorem PlayI.sub {n : Int} {ps L : List Int} (P : PlayI n ps L) : ∀ x ∈ L, x ∈ ps := fun _ h => P.sl.subset h
theorem PlayI.start {n : Int} {ps : List Int} (o : OkP ps n) : PlayI n ps ps := ⟨o, List.Sublist.refl _, fun k k0 k1 no => absurd (sAt_mem k0 k1) no⟩
theorem PlayI.step {n k0 : Int} {ps L : List Int} (o : OkP ps n) (P : PlayI n ps L) (hk : k0 ∈ wiI L n) : PlayI n ps (leftA L (nxI L k0)) := by
  obtain ⟨a0, a1, lt, _⟩ := wi_two hk
  have nk := nx_rg a0 a1
  have er := left_rem P.ok.asc nk.1 nk.2
  refine ⟨left_ok P.ok hk, (left_sub L _).trans P.sl, fun k b0 b1 no h hh => ?_⟩
  have hL := (left_sub L _).subset hh
  have rp := o.rg _ (sAt_mem (xs := ps) b0 b1)
  by_cases c : sAt ps k ∈ L
  · rw [er] at no hh
    have ex : sAt ps k = sAt L (nxI L k0) := Classical.byContradiction fun z => no (List.mem_filter.mpr ⟨c, by simpa using z⟩)
    have hne : h ≠ sAt L (nxI L k0) := by simpa using (List.mem_filter.mp hh).2
    have n2 := nx_rg nk.1 nk.2
    have zL := sAt_mem (xs := L) n2.1 n2.2
    have g1 := gap_least o b0 b1 (P.sub _ zL)
    rw [gap_dV P.ok a0 a1, gap_dV P.ok nk.1 nk.2, ← ex] at lt
    have rh := o.rg _ (P.sub _ hL)
    have rk := o.rg _ (P.sub _ (sAt_mem (xs := L) a0 a1))
    have m := gap_least P.ok a0 a1 hL
    rw [gap_dV P.ok a0 a1, ← ex] at m
    rw [← ex] at hne
    have : dV n (sAt L k0) (sAt ps k) ≤ dV n h (sAt ps k) := by
      unfold dV at m ⊢
      split at m <;> split at m <;> split <;> (try split) <;> omega
    omega
  · exact P.had k b0 b1 c h hL
theorem PlayI.due {n : Int} {ps L : List Int} (o : OkP ps n) (P : PlayI n ps L) (hr : wipV L n = []) : L ∈ dueV n ps := by
  obtain ⟨g, hg⟩ := rest_even P.ok hr
  obtain ⟨e1, e2, e3, e4⟩ := even_form P.ok hg
  have ll : 0 < L.length := List.length_pos_iff.mpr P.ok.ne
  have lp : L.length ≤ ps.length := P.sl.length_le
  have dv : n / (L.length : Int) = g := by rw [e2]; exact Int.mul_ediv_cancel _ (by omega)
  refine List.mem_filter.mpr ⟨(mem_even o).mpr ⟨L.length, sAt L 0, by omega, by omega, by rw [e2]; exact Int.mul_emod_left _ _, P.sub _ (sAt_mem (by decide) (by omega)), by rw [dv]; exact e3, by rw [dv]; exact e1, P.sub⟩, ?_⟩
  rw [had_iff]
  intro k k0 k1 kc
  obtain ⟨h, hh, ew, _⟩ := way_at (fun y hy => o.rg y (P.sub y hy)) (o.rg _ (sAt_mem k0 k1)) kc P.ok.ne
  rw [ew]
  exact P.had k k0 k1 kc h hh
/-! ### the order of the cuts -/
def keyLt (a b : List Int) : Prop := a.length < b.length ∨ a.length = b.length ∧ sAt a 0 < sAt b 0
theorem even_sorted {n : Int} {ps : List Int} (o : OkP ps n) : (evenV n ps).Pairwise keyLt := by
  unfold evenV
  rw [List.pairwise_flatMap]
  refine ⟨fun m hm => ?_, ?_⟩
  · have := mem_rng.mp hm
    split
    · unfold cutsV
      refine List.Pairwise.filter _ ?_
      rw [List.pairwise_map]
      refine (o.asc.filter _).imp fun {a b} h => .inr ⟨by rw [cutV_len, cutV_len], ?_⟩
      rw [cutV_at (by decide) (by omega), cutV_at (by decide) (by omega)]
      omega
    · exact List.Pairwise.nil
  · have up : (rng 1 ((ps.length : Int) + 1)).Pairwise (· < ·) := by
      have := rng_sorted (ps.length : Int)
      rw [show rng 1 ((ps.length : Int) + 1) = rng (0 + 1) ((ps.length : Int) + 1) from rfl, ← rng_map, List.pairwise_map]
      exact this.imp fun h => by omega
    refine up.imp_of_mem fun {a b} ha hb h x hx y hy => ?_
    have ra := mem_rng.mp ha
    have rb := mem_rng.mp hb
    have key : ∀ {m : Int} {c : List Int}, c ∈ (if n % m = 0 then cutsV n ps m else []) → c.length = m.toNat := by
      intro m c hc
      split at hc
      · unfold cutsV at hc
        obtain ⟨f, _, rfl⟩ := List.mem_map.mp (List.mem_filter.mp hc).1
        exact cutV_len _ _ _
      · cases hc
    left
    rw [key hx, key hy]
    omega
theorem due_sorted {n : Int} {ps : List Int} (o : OkP ps n) : (dueV n ps).Pairwise keyLt := (even_sorted o).filter _
theorem due_even {n : Int} {ps c : List Int} (h : c ∈ dueV n ps) : c ∈ evenV n ps := (List.mem_filter.mp h).1
/-- no mark may wipe: the marks are the one end -/
theorem due_rest {n : Int} {ps : List Int} (o : OkP ps n) (hr : wipV ps n = []) : dueV n ps = [ps] := by
  have m := (PlayI.start o).due o hr
  obtain ⟨g, hg⟩ := rest_even o hr
  have all : ∀ c ∈ dueV n ps, c = ps := fun c hc => by
    have he := due_even hc
    have hd := had_iff.mp (List.mem_filter.mp hc).2
    obtain ⟨_, _, ne⟩ := even_spaced o he
    obtain ⟨_, _, _, _, _, _, _, _, sub⟩ := (mem_even o).mp he
    have asc := (spaced_in (even_spaced o he).1).2.2.1
    have oc : OkP c n := ⟨ne, asc, fun p hp => o.rg p (sub p hp), Nat.le_trans (even_spaced o he).2.1 o.big⟩
    have closed : ∀ k : Int, 0 ≤ k → k < ps.length → sAt ps k ∈ c → sAt ps (nxI ps k) ∈ c := fun k k0 k1 kc => Classical.byContradiction fun no => by
      have nk := nx_rg k0 k1
      have a := hd _ nk.1 nk.2 no
      have b := way_le (fun y hy => oc.rg y hy) (o.rg _ (sAt_mem nk.1 nk.2)) no kc
      rw [hg _ nk.1 nk.2] at a
      rw [← gap_dV o k0 k1, hg k k0 k1] at b
      omega
    obtain ⟨k0, a0, a1, e0⟩ := mem_sAt (sub _ (sAt_mem (xs := c) (i := 0) (by decide) (by have := List.length_pos_iff.mpr ne; omega)))
    have up : ∀ i : Nat, sAt ps (onI ps k0 i) ∈ c := by
      intro i
      induction i with
      | zero =>
        rw [show ((0 : Nat) : Int) = 0 from rfl, on_self a0 a1, ← e0]
        exact sAt_mem (by decide) (by have := List.length_pos_iff.mpr ne; omega)
      | succ i ih =>
        have r := on_rg8 (f := k0) (s := i) o.ne
        have := closed _ r.1 r.2 ih
        rwa [on_next, show (i : Int) + 1 = ((i + 1 : Nat) : Int) by omega] at this
    have sup : ∀ x ∈ ps, x ∈ c := fun x hx => by
      obtain ⟨j, j0, j1, rfl⟩ := mem_sAt hx
      have := up ((j - k0) % ps.length).toNat
      have r0 := Int.emod_nonneg (j - k0) (show (ps.length : Int) ≠ 0 by omega)
      rw [show (((((j - k0) % ps.length).toNat : Nat)) : Int) = (j - k0) % ps.length by omega] at this
      unfold onI at this
      rwa [Int.add_emod_emod, show k0 + (j - k0) = j by omega, Int.emod_eq_of_lt j0 j1] at this
    exact List.Perm.eq_of_pairwise (le := (· ≤ ·)) (fun a b _ _ h1 h2 => Int.le_antisymm h1 h2) (asc.imp fun q => Int.le_of_lt q) (o.asc.imp fun q => Int.le_of_lt q) ((List.perm_ext_iff_of_nodup (asc.imp fun q => Int.ne_of_lt q) (o.asc.imp fun q => Int.ne_of_lt q)).mpr fun x => ⟨sub x, sup x⟩)
  have so := due_sorted o
  cases e : dueV n ps with
  | nil => rw [e] at m; cases m
  | cons c cs =>
    rw [e] at all so
    have c1 := all c List.mem_cons_self
    cases cs with
    | nil => rw [c1]
    | cons d ds =>
      have d1 := all d (by simp)
      have := (List.pairwise_cons.mp so).1 d List.mem_cons_self
      rw [c1, d1] at this
      rcases this with q | q <;> omega
/-- a mark may wipe: some end has one place -/
theorem due_one {n : Int} {ps : List Int} (o : OkP ps n) (hr : wipV ps n ≠ []) : ∃ c cs, dueV n ps = c :: cs ∧ c.length = 1 := by
  have ne : keptV ps n ≠ ps := fun e => hr (by
    refine even_rest (g := maxG ps n) fun k k0 k1 => ?_
    have m : sAt ps k ∈ keptV ps n := by rw [e]; exact sAt_mem k0 k1
    obtain ⟨j, j0, j1, a, b⟩ := mem_kept.mp m
    rw [sAt_inj o.asc k0 k1 j0 j1 b]
    exact a)
  obtain ⟨k, k0, k1, e1, e2⟩ := kept_edge o ne
  have nk := nx_rg k0 k1
  have pl : 0 < ps.length := List.length_pos_iff.mpr o.ne
  have mk := sAt_mem (xs := ps) k0 k1
  have rk := o.rg _ mk
  have mem : [sAt ps k] ∈ dueV n ps := by
    refine List.mem_filter.mpr ⟨(mem_even o).mpr ⟨1, sAt ps k, by decide, by omega, Int.emod_one _, mk, by rw [Int.ediv_one]; exact rk.2, ?_, fun x hx => by rw [List.mem_singleton.mp hx]; exact mk⟩, ?_⟩
    · unfold cutV
      rw [rng_cons (by decide), rng_nil (by decide)]
      simp
    · rw [had_iff]
      intro j j0 j1 jc
      have rj := o.rg _ (sAt_mem (xs := ps) j0 j1)
      obtain ⟨h, hh, ew, _⟩ := way_at (fun y hy => by rw [List.mem_singleton.mp hy]; exact rk) rj jc (by simp)
      rw [List.mem_singleton.mp hh] at ew
      rw [ew]
      have gm := (maxGK (n := n) o.ne).2.2 _ (mem_gaps.mpr ⟨j, j0, j1, rfl⟩)
      have l := gap_least o k0 k1 (sAt_mem (xs := ps) j0 j1)
      rw [e1] at l
      by_cases c : sAt ps j = sAt ps (nxI ps k)
      · have ej := sAt_inj o.asc j0 j1 nk.1 nk.2 c
        have : gapV ps n j ≠ maxG ps n := by rw [ej]; exact e2
        omega
      · rw [gap_dV o k0 k1] at e1
        have rn := o.rg _ (sAt_mem (xs := ps) nk.1 nk.2)
        have a := dV_add rk rn rj (by omega) (fun z => c z.symm)
        have b := dV_pos rn rj
        omega
  have so := due_sorted o
  cases e : dueV n ps with
  | nil => rw [e] at mem; cases mem
  | cons c cs =>
    refine ⟨c, cs, rfl, ?_⟩
    rw [e] at so mem
    have cn := (even_spaced o (due_even (show c ∈ dueV n ps by rw [e]; exact List.mem_cons_self))).2.2
    have cl := List.length_pos_iff.mpr cn
    rcases List.mem_cons.mp mem with q | q
    · rw [← q]; rfl
    · have := (List.pairwise_cons.mp so).1 _ q
      rcases this with z | z
      · rw [List.length_singleton] at z; omega
      · rw [z.1]; rfl
/-! ### marks out of a block of gaps -/
def plV (S : Int) : Int → List Int → List Int
  | _, [] => []
  | a, g :: gs => a % S :: plV S (a + g) gs
theorem plV_len (S : Int) : ∀ (gs : List Int) (a : Int), (plV S a gs).length = gs.length
  | [], _ => rfl
  | g :: gs, a => by unfold plV; rw [List.length_cons, List.length_cons, plV_len S gs]
theorem plLoop {δ ρ : Type} {S : Int} (hS : 0 < S) : ∀ (gs : List Int) (a : Int) (acc : List Int), acc.length + gs.length ≤ 90000 → (forM (fun (gap189 : Int) (s188 : Int × List Int) =>
    mb (modM s188.1 S) fun v192 => mb (app s188.2 v192) fun places190 =>
    .ok (.nx ((s188.1 + gap189), places190))) gs (a, acc) : M (Out (Int × List Int) δ ρ)) = .ok (.nx (a + gs.sum, acc ++ plV S a gs))
  | [], a, acc, _ => by simp [forM, plV]
  | g :: gs, a, acc, hl => by
    rw [List.length_cons] at hl
    rw [forM_nx8 (t := (a + g, acc ++ [a % S])) (by
      rw [modK hS, mbk, appK (show acc.length ≤ 1000000 by omega)]
      rfl), plLoop hS gs (a + g) (acc ++ [a % S]) (by rw [List.length_append, List.length_singleton]; omega)]
    rw [show plV S a (g :: gs) = a % S :: plV S (a + g) gs from rfl, List.sum_cons, List.append_assoc, Int.add_assoc]
    rfl
theorem plV_mem {S : Int} : ∀ (gs : List Int) (a x : Int), (∀ g ∈ gs, 1 ≤ g) → x ∈ plV S a gs → ∃ P, 0 ≤ P ∧ P < gs.sum ∧ x = (a + P) % S
  | [], _, _, _, h => by cases h
  | g :: gs, a, x, hg, h => by
    have g1 := hg g List.mem_cons_self
    have s0 : 0 ≤ gs.sum := sum_nn fun y hy => by have := hg y (List.mem_cons_of_mem _ hy); omega
    rw [List.sum_cons]
    unfold plV at h
    rcases List.mem_cons.mp h with h | h
    · exact ⟨0, Int.le_refl _, by omega, by rw [h, Int.add_zero]⟩
    · obtain ⟨P, p0, p1, e⟩ := plV_mem gs (a + g) x (fun y hy => hg y (List.mem_cons_of_mem _ hy)) h
      exact ⟨g + P, by omega, by omega, by rw [e, Int.add_assoc]⟩
theorem plV_nodup {S : Int} : ∀ (gs : List Int) (a : Int), (∀ g ∈ gs, 1 ≤ g) → gs.sum ≤ S → (plV S a gs).Nodup
  | [], _, _, _ => List.nodup_nil
  | g :: gs, a, hg, hs => by
    have g1 := hg g List.mem_cons_self
    rw [List.sum_cons] at hs
    unfold plV
    refine List.nodup_cons.mpr ⟨fun h => ?_, plV_nodup gs (a + g) (fun y hy => hg y (List.mem_cons_of_mem _ hy)) (by omega)⟩
    obtain ⟨P, p0, p1, e⟩ := plV_mem gs (a + g) _ (fun y hy => hg y (List.mem_cons_of_mem _ hy)) h
    have d : (a + g + P - a) % S = 0 := by rw [Int.sub_emod, ← e, Int.sub_self]; rfl
    rw [show a + g + P - a = g + P by omega, Int.emod_eq_of_lt (by omega) (by omega)] at d
    omega
theorem sort_ok {qs : List Int} {n : Int} (ne : qs ≠ []) (nd : qs.Nodup) (rg : ∀ p ∈ qs, 0 ≤ p ∧ p < n) (hl : qs.length ≤ 90000) : OkP (sortI qs) n := by
  have pm : (sortI qs).Perm qs := List.mergeSort_perm _ _
  have so : (sortI qs).Pairwise (· ≤ ·) := by
    have := List.pairwise_mergeSort (le := fun a b : Int => decide (a ≤ b)) (fun a b c h1 h2 => by simp at *; omega) (fun a b => by simp; omega) qs
    exact this.imp fun h => by simpa using h
  refine ⟨fun e => ?_, (so.and (pm.nodup_iff.mpr nd)).imp fun q => by omega, fun p hp => rg p (pm.mem_iff.mp hp), by rw [pm.length_eq]; exact hl⟩
  have := pm.length_eq
  rw [e] at this
  exact ne (List.length_eq_zero_iff.mp this.symm)
theorem pl_ok {gs : List Int} {a : Int} (ne : gs ≠ []) (hg : ∀ g ∈ gs, 1 ≤ g) (hl : gs.length ≤ 90000) : 0 < gs.sum ∧ OkP (sortI (plV gs.sum a gs)) gs.sum := by
  have s1 : 0 < gs.sum := by
    cases gs with
    | nil => exact absurd rfl ne
    | cons g gs =>
      have g1 := hg g List.mem_cons_self
      have s0 : 0 ≤ gs.sum := sum_nn fun y hy => by have := hg y (List.mem_cons_of_mem _ hy); omega
      rw [List.sum_cons]; omega
  refine ⟨s1, sort_ok (fun e => ?_) (plV_nodup gs a hg (Int.le_refl _)) (fun p hp => ?_) (by rw [plV_len]; exact hl)⟩
  · have := plV_len gs.sum gs a
    rw [e] at this
    exact ne (List.length_eq_zero_iff.mp this.symm)
  · obtain ⟨P, _, _, e⟩ := plV_mem gs a p hg hp
    rw [e]
    exact ⟨Int.emod_nonneg _ (by omega), Int.emod_lt_of_pos _ s1⟩
theorem sum_bd {B : Int} (hB : 0 ≤ B) : ∀ {xs : List Int}, (∀ x ∈ xs, x ≤ B) → xs.sum ≤ B * xs.length
  | [], _ => by simp
  | x :: xs, h => by
    have a := h x List.mem_cons_self
    have b := sum_bd hB (xs := xs) fun y hy => h y (List.mem_cons_of_mem _ hy)
    rw [List.sum_cons, List.length_cons, show ((xs.length + 1 : Nat) : Int) = (xs.length : Int) + 1 by omega, Int.mul_add, Int.mul_one]
    omega
end DL

namespace DL
open PySem PySem.Spec PyProof.Rows L2
/-! ### the text -/
def topS (i : Nat) : Stmt := PySem.Challenge.pw_retinue_k49_whole_mark_ends.main.body.getD i (.Pass ⟨0, 0, 0, 0⟩)
def inClass (s : Stmt) (i : Nat) : Stmt := match s with
  | .ClassDef _ _ _ b _ _ _ _ _ _ _ => b.getD i (.Pass ⟨0, 0, 0, 0⟩)
  | _ => (.Pass ⟨0, 0, 0, 0⟩)
abbrev s__law_cell : Stmt := topS 16
abbrev s__law_draws : Stmt := topS 17
abbrev s__law_places : Stmt := topS 23
abbrev s__law_marks : Stmt := topS 24
abbrev s_gaps_between : Stmt := topS 6
abbrev s_Marks___init__ : Stmt := inClass (topS 7) 0
abbrev s__law_even : Stmt := topS 25
abbrev s__law_gaps : Stmt := topS 20
abbrev s__law_can_be_had : Stmt := topS 27
abbrev s_is_spaced : Stmt := topS 9
abbrev s_check_end : Stmt := topS 10
abbrev s_inner_marks : Stmt := topS 11
abbrev s_mark_fault : Stmt := topS 12
abbrev s_mark_ends : Stmt := topS 13
abbrev s__law_is_integer : Stmt := topS 18
abbrev s__law_numbers : Stmt := topS 19
abbrev s__law_ends : Stmt := topS 31
abbrev s_wipe_plan : Stmt := topS 14
abbrev s__law_plan : Stmt := topS 29
abbrev s__law_wipers : Stmt := topS 21
abbrev s__law_left : Stmt := topS 22
abbrev s__law_end_left : Stmt := topS 30
abbrev s__law_play : Stmt := topS 28
abbrev s_Marks___len__ : Stmt := inClass (topS 7) 1
abbrev s__law_is_marks : Stmt := topS 26
abbrev s_law : Stmt := topS 32
abbrev s_BadMarks___init__ : Stmt := inClass (topS 4) 0
abbrev s_BadCut___init__ : Stmt := inClass (topS 2) 0
abbrev s_NoEnd___init__ : Stmt := inClass (topS 3) 0
abbrev s_Marks___iter__ : Stmt := inClass (topS 7) 2
theorem sc__law_cell : FnScope ["script", "k"] ["script", "k"] (defScope s__law_cell) := ⟨rfl, rfl, rfl, by decide +kernel, rfl, by decide +kernel, by decide +kernel⟩
theorem sc__law_draws : FnScope ["cell", "sizes", "left", "draws", "k", "mixed"] ["cell", "sizes"] (defScope s__law_draws) := ⟨rfl, rfl, rfl, by decide +kernel, rfl, by decide +kernel, by decide +kernel⟩
theorem sc__law_places : FnScope ["cell", "size", "head", "chosen", "place"] ["cell", "size"] (defScope s__law_places) := ⟨rfl, rfl, rfl, by decide +kernel, rfl, by decide +kernel, by decide +kernel⟩
theorem sc__law_marks : FnScope ["script", "kind", "wide", "first", "cell", "size", "draws", "block", "gaps", "places", "at", "gap"] ["script"] (defScope s__law_marks) := ⟨rfl, rfl, rfl, by decide +kernel, rfl, by decide +kernel, by decide +kernel⟩
theorem sc_gaps_between : FnScope ["places", "size", "many", "k"] ["places", "size"] (defScope s_gaps_between) := ⟨rfl, rfl, rfl, by decide +kernel, rfl, by decide +kernel, by decide +kernel⟩
theorem sc_Marks___init__ : FnScope ["self", "size", "places", "seen", "place"] ["self", "size", "places"] (defScope s_Marks___init__) := ⟨rfl, rfl, rfl, by decide +kernel, rfl, by decide +kernel, by decide +kernel⟩
theorem sc__law_even : FnScope ["size", "places", "found", "many", "arc", "first", "cut", "one", "place", "k"] ["size", "places"] (defScope s__law_even) := ⟨rfl, rfl, rfl, by decide +kernel, rfl, by decide +kernel, by decide +kernel⟩
theorem sc__law_gaps : FnScope ["places", "size", "many", "k"] ["places", "size"] (defScope s__law_gaps) := ⟨rfl, rfl, rfl, by decide +kernel, rfl, by decide +kernel, by decide +kernel⟩
theorem sc__law_can_be_had : FnScope ["size", "places", "cut", "gaps", "k", "head"] ["size", "places", "cut"] (defScope s__law_can_be_had) := ⟨rfl, rfl, rfl, by decide +kernel, rfl, by decide +kernel, by decide +kernel⟩
theorem sc_is_spaced : FnScope ["marks", "cut", "k", "distances"] ["marks", "cut"] (defScope s_is_spaced) := ⟨rfl, rfl, rfl, by decide +kernel, rfl, by decide +kernel, by decide +kernel⟩
theorem sc_check_end : FnScope ["marks", "end", "cut"] ["marks", "end"] (defScope s_check_end) := ⟨rfl, rfl, rfl, by decide +kernel, rfl, by decide +kernel, by decide +kernel⟩
theorem sc_inner_marks : FnScope ["marks", "cut", "many", "first", "found", "head", "way", "step", "at", "place", "gap"] ["marks", "cut"] (defScope s_inner_marks) := ⟨rfl, rfl, rfl, by decide +kernel, rfl, by decide +kernel, by decide +kernel⟩
theorem sc_mark_fault : FnScope ["marks", "end", "head", "place", "gap", "way"] ["marks", "end"] (defScope s_mark_fault) := ⟨rfl, rfl, rfl, by decide +kernel, rfl, by decide +kernel, by decide +kernel⟩
theorem sc_mark_ends : FnScope ["marks", "ends", "many", "arc", "first", "cut", "place", "k"] ["marks"] (defScope s_mark_ends) := ⟨rfl, rfl, rfl, by decide +kernel, rfl, by decide +kernel, by decide +kernel⟩
theorem sc__law_is_integer : FnScope ["actual"] ["actual"] (defScope s__law_is_integer) := ⟨rfl, rfl, rfl, by decide +kernel, rfl, by decide +kernel, by decide +kernel⟩
theorem sc__law_numbers : FnScope ["actual", "due", "as_tuple", "k"] ["actual", "due", "as_tuple"] (defScope s__law_numbers) := ⟨rfl, rfl, rfl, by decide +kernel, rfl, by decide +kernel, by decide +kernel⟩
theorem sc__law_ends : FnScope ["told", "ends", "end"] ["told"] (defScope s__law_ends) := ⟨rfl, rfl, rfl, by decide +kernel, rfl, by decide +kernel, by decide +kernel⟩
theorem sc_wipe_plan : FnScope ["marks", "end", "reason", "head", "place", "gap", "way"] ["marks", "end"] (defScope s_wipe_plan) := ⟨rfl, rfl, rfl, by decide +kernel, rfl, by decide +kernel, by decide +kernel⟩
theorem sc__law_plan : FnScope ["marks", "end"] ["marks", "end"] (defScope s__law_plan) := ⟨rfl, rfl, rfl, by decide +kernel, rfl, by decide +kernel, by decide +kernel⟩
theorem sc__law_wipers : FnScope ["places", "size", "gaps", "k"] ["places", "size"] (defScope s__law_wipers) := ⟨rfl, rfl, rfl, by decide +kernel, rfl, by decide +kernel, by decide +kernel⟩
theorem sc__law_left : FnScope ["places", "place", "at"] ["places", "place"] (defScope s__law_left) := ⟨rfl, rfl, rfl, by decide +kernel, rfl, by decide +kernel, by decide +kernel⟩
theorem sc__law_end_left : FnScope ["marks", "size", "places", "end", "plan", "left", "place"] ["marks", "size", "places", "end"] (defScope s__law_end_left) := ⟨rfl, rfl, rfl, by decide +kernel, rfl, by decide +kernel, by decide +kernel⟩
theorem sc__law_play : FnScope ["cell", "size", "places", "draws", "left", "step", "wipers"] ["cell", "size", "places"] (defScope s__law_play) := ⟨rfl, rfl, rfl, by decide +kernel, rfl, by decide +kernel, by decide +kernel⟩
theorem sc_Marks___len__ : FnScope ["self"] ["self"] (defScope s_Marks___len__) := ⟨rfl, rfl, rfl, by decide +kernel, rfl, by decide +kernel, by decide +kernel⟩
theorem sc__law_is_marks : FnScope ["actual", "size", "places"] ["actual", "size", "places"] (defScope s__law_is_marks) := ⟨rfl, rfl, rfl, by decide +kernel, rfl, by decide +kernel, by decide +kernel⟩
theorem sc_law : FnScope ["script", "size", "places", "marks", "due", "told", "first", "k", "cut"] ["script"] (defScope s_law) := ⟨rfl, rfl, rfl, by decide +kernel, rfl, by decide +kernel, by decide +kernel⟩
theorem sc_BadMarks___init__ : FnScope ["self", "place"] ["self", "place"] (defScope s_BadMarks___init__) := ⟨rfl, rfl, rfl, by decide +kernel, rfl, by decide +kernel, by decide +kernel⟩
theorem sc_BadCut___init__ : FnScope ["self", "cut"] ["self", "cut"] (defScope s_BadCut___init__) := ⟨rfl, rfl, rfl, by decide +kernel, rfl, by decide +kernel, by decide +kernel⟩
theorem sc_NoEnd___init__ : FnScope ["self", "reason"] ["self", "reason"] (defScope s_NoEnd___init__) := ⟨rfl, rfl, rfl, by decide +kernel, rfl, by decide +kernel, by decide +kernel⟩
theorem sc_Marks___iter__ : FnScope ["self"] ["self"] (defScope s_Marks___iter__) := ⟨rfl, rfl, rfl, by decide +kernel, rfl, by decide +kernel, by decide +kernel⟩
def fC_Marks (z : (Int × (List Int) × (List Int))) : List (Str × D) := [("size", eI z.1), ("places", (eF eI) z.2.1), ("gaps", (eT eI) z.2.2)]
abbrev eC_Marks : (Int × (List Int) × (List Int)) → D := fun z => .obj "Marks" (fC_Marks z)
theorem fC_Marks_size (z : (Int × (List Int) × (List Int))) : eC_Marks z = .obj "Marks" (fC_Marks z) ∧ (fC_Marks z).lookup ("size" : Str) = some (eI z.1) := ⟨rfl, by rfl⟩
theorem fC_Marks_places (z : (Int × (List Int) × (List Int))) : eC_Marks z = .obj "Marks" (fC_Marks z) ∧ (fC_Marks z).lookup ("places" : Str) = some ((eF eI) z.2.1) := ⟨rfl, by rfl⟩
theorem fC_Marks_gaps (z : (Int × (List Int) × (List Int))) : eC_Marks z = .obj "Marks" (fC_Marks z) ∧ (fC_Marks z).lookup ("gaps" : Str) = some ((eT eI) z.2.2) := ⟨rfl, by rfl⟩
/-! ### what each def computes -/
def c__law_cell (script : (List Int)) (k : Int) : M (Out Unit Empty Int) := if (decide (k < (script.length : Int))) = true then mb (ixM script k) fun v1 => .ok (.rt v1)
    else .ok (.rt 0)
def f__law_cell (script : (List Int)) (k : Int) : M Int := fnV .no (c__law_cell script k)
def c__law_draws (cell : Int) (sizes : (List Int)) : M (Out Unit Empty (List Int)) := mb (rngM 0 (sizes.length : Int)) fun v82 => sq (forM (fun (k59 : Int) (s58 : Int × List Int) =>
    mb (mb (powM 10 18) fun v60 => (.ok (decide (v60 ≤ cell)))) fun v80 => if v80 = true then mb (mb (ixM sizes k59) fun v61 => modM s58.1 v61) fun v65 => mb (app s58.2 v65) fun draws62 =>
    mb (mb (ixM sizes k59) fun v63 => divM s58.1 v63) fun left64 =>
    .ok (.nx (left64, draws62))
    else mb (mb (mb (mb (mulM 7919 k59) fun v66 => (.ok (cell + v66))) fun v67 => (.ok (v67 + 13))) fun v68 => modM v68 2147483647) fun mixed69 =>
    mb (mb (mulM mixed69 (mixed69 + 48271)) fun v70 => modM v70 2147483629) fun mixed71 =>
    mb (mb (mb (mulM mixed71 (mixed71 + 69621)) fun v72 => mb (mulM 31 k59) fun v73 => (.ok (v72 + v73))) fun v74 => modM v74 2147483647) fun mixed75 =>
    mb (mb (divM mixed75 9) fun v76 => mb (ixM sizes k59) fun v77 => modM v76 v77) fun v79 => mb (app s58.2 v79) fun draws78 =>
    .ok (.nx (s58.1, draws78))) v82 (cell, ([] : List Int))) fun s81 =>
    .ok (.rt s81.2)
def f__law_draws (cell : Int) (sizes : (List Int)) : M (List Int) := fnV .no (c__law_draws cell sizes)
def c__law_places (cell : Int) (size : Int) : M (Out Unit Empty (List Int)) := mb (f__law_draws cell [2, 6, size]) fun head111 =>
    mb (mb (ixM head111 0) fun v112 => (.ok (decide (v112 = 1)))) fun v132 => if v132 = true then mb (mb (mb (mb (mb (repM [size] 6) fun v113 => catM [2, 6, size] v113) fun v114 => f__law_draws cell v114) fun v117 => mb (mb (mb (ixM head111 1) fun v115 => (.ok (4 + v115))) fun v116 => (.ok (some v116))) fun v118 => (.ok (cut v117 (some 3) v118))) fun v119 => sortSet v119) fun v120 => .ok (.rt v120)
    else mb (mb (mb (mb (repM [2] size) fun v121 => catM [2, 6, size] v121) fun v122 => f__law_draws cell v122) fun v123 => (.ok (cut v123 (some 3) none))) fun chosen124 =>
    mb (mb (rngM 0 size) fun v130 => lcM (fun place125 => mb (mb (ixM chosen124 place125) fun v127 => (.ok (decide (v127 = 1)))) fun v129 => if v129 = true then .ok true else mb (ixM head111 2) fun v128 => (.ok (decide (place125 = v128)))) (fun place125 => (.ok place125)) v130) fun v131 => .ok (.rt v131)
def f__law_places (cell : Int) (size : Int) : M (List Int) := fnV .no (c__law_places cell size)
def c__law_marks (script : (List Int)) : M (Out Unit Empty (Int × (List Int))) := mb (mb (mb (f__law_cell script 0) fun v159 => f__law_draws v159 [8, 60, 60]) fun v160 => un3 v160) fun u161 =>
    mb (f__law_cell script 1) fun cell162 =>
    if (decide (4 ≤ u161.1)) = true then mb (mb (mb (mb (modM u161.2.1 24) fun v163 => (.ok [v163, u161.2.1])) fun v164 => ixM v164 (if (decide (u161.1 = 7)) = true then 1 else 0)) fun v165 => (.ok (1 + v165))) fun size166 =>
    mb (mb (f__law_places cell162 size166) fun v167 => (.ok (size166, v167))) fun v168 => .ok (.rt v168)
    else mb (mb (mb (repM [3] 5) fun v169 => catM [5, 60] v169) fun v170 => f__law_draws cell162 v170) fun draws171 =>
    mb (mb (mb (mb (mb (ixM draws171 0) fun v172 => (.ok (3 + v172))) fun v173 => (.ok (some v173))) fun v174 => (.ok (cut draws171 (some 2) v174))) fun v177 => mapC (fun gap175 => (.ok (1 + gap175))) v177) fun block178 =>
    mb (mb (mb (mb (ixM draws171 1) fun v180 => mb (mb (divM 36 block178.sum) fun v179 => (.ok (min 4 v179))) fun v181 => modM v180 v181) fun v182 => (.ok (1 + v182))) fun v183 => repM block178 v183) fun gaps184 =>
    sq (forM (fun (gap189 : Int) (s188 : Int × List Int) =>
    mb (modM s188.1 gaps184.sum) fun v192 => mb (app s188.2 v192) fun places190 =>
    .ok (.nx ((s188.1 + gap189), places190))) gaps184 (u161.2.2, ([] : List Int))) fun s193 =>
    .ok (.rt (gaps184.sum, sortI s193.2))
def f__law_marks (script : (List Int)) : M (Int × (List Int)) := fnV .no (c__law_marks script)
def c_gaps_between (places : (List Int)) (size : Int) : M (Out Unit Empty (List Int)) := let many211 := (places.length : Int)
    mb (mb (rngM 0 many211) fun v220 => mapC (fun k212 => mb (mb (mb (mb (mb (modM (k212 + 1) many211) fun v214 => ixM places v214) fun v215 => mb (ixM places k212) fun v216 => (.ok (v215 - v216))) fun v217 => (.ok (v217 - 1))) fun v218 => modM v218 size) fun v219 => (.ok (v219 + 1))) v220) fun v221 => .ok (.rt v221)
def f_gaps_between (places : (List Int)) (size : Int) : M (List Int) := fnV .no (c_gaps_between places size)
def c_Marks___init__ (size : Int) (places : (List Int)) : M (Out (Int × (List Int) × (List Int)) Empty Unit) := if (decide ((places.length : Int) = 0)) = true then .er ⟨"BadMarks", [("place", eI (-1))]⟩
    else sq (forM (fun (place224 : Int) (s223 : List (Int × Bool)) =>
    if ((decide (place224 < 0)) || ((decide (size ≤ place224)) || ((getA s223 place224).isSome))) = true then .er ⟨"BadMarks", [("place", eI place224)]⟩
    else mb (putM s223 place224 true) fun seen225 =>
    .ok (.nx seen225)) places ([] : List (Int × Bool))) fun s226 =>
    mb (f_gaps_between (sortI places) size) fun gaps229 =>
    .ok (.nx ⟨size, (sortI places), gaps229⟩)
def f_Marks___init__ (size : Int) (places : (List Int)) : M (Int × (List Int) × (List Int)) := fnI (c_Marks___init__ size places)
def c__law_even (size : Int) (places : (List Int)) : M (Out Unit Empty (List (List Int))) := mb (mb (rngM 1 ((places.length : Int) + 1)) fun v287 => lcM (fun one284 => mb (modM size one284) fun v286 => (.ok (decide (v286 = 0)))) (fun one284 => (.ok one284)) v287) fun v308 => sq (forM (fun (many289 : Int) (s288 : List (List Int)) =>
    mb (divM size many289) fun arc290 =>
    mb (lcM (fun place291 => (.ok (decide (place291 < arc290)))) (fun place291 => (.ok place291)) places) fun v306 => sq (forM (fun (first294 : Int) (s293 : List (List Int)) =>
    mb (mb (rngM 0 many289) fun v298 => mapC (fun k295 => mb (mulM arc290 k295) fun v297 => (.ok (first294 + v297))) v298) fun cut299 =>
    mb (mb (lcM (fun place300 => (.ok (!decide (place300 ∈ places)))) (fun place300 => (.ok place300)) cut299) fun v302 => (.ok (decide (v302 = ([] : List Int))))) fun v304 => if v304 = true then mb (app s293 cut299) fun found303 =>
    .ok (.nx found303)
    else .ok (.nx s293)) v306 s288) fun s305 =>
    .ok (.nx s305)) v308 ([] : List (List Int))) fun s307 =>
    .ok (.rt s307)
def f__law_even (size : Int) (places : (List Int)) : M (List (List Int)) := fnV .no (c__law_even size places)
def c__law_gaps (places : (List Int)) (size : Int) : M (Out Unit Empty (List Int)) := let many321 := (places.length : Int)
    mb (mb (rngM 0 many321) fun v330 => mapC (fun k322 => mb (mb (mb (mb (mb (modM (k322 + 1) many321) fun v324 => ixM places v324) fun v325 => mb (ixM places k322) fun v326 => (.ok (v325 - v326))) fun v327 => (.ok (v327 - 1))) fun v328 => modM v328 size) fun v329 => (.ok (v329 + 1))) v330) fun v331 => .ok (.rt v331)
def f__law_gaps (places : (List Int)) (size : Int) : M (List Int) := fnV .no (c__law_gaps places size)
def c__law_can_be_had (size : Int) (places : (List Int)) (cut : (List Int)) : M (Out Unit Empty Bool) := mb (f__law_gaps places size) fun gaps347 =>
    mb (rngM 0 (places.length : Int)) fun v361 => sq (forM (fun (k349 : Int) (s348 : Unit) =>
    mb (mb (mb (ixM places k349) fun v350 => (.ok (!decide (v350 ∈ cut)))) fun v358 => if v358 = true then mb (ixM gaps347 k349) fun v356 => mb (mb (mapC (fun head351 => mb (mb (ixM places k349) fun v353 => (.ok (v353 - head351))) fun v354 => modM v354 size) cut) fun v355 => minI v355) fun v357 => (.ok (decide (v357 ≤ v356))) else .ok false) fun v359 => if v359 = true then .ok (.rt false)
    else .ok (.nx ())) v361 ()) fun s360 =>
    .ok (.rt true)
def f__law_can_be_had (size : Int) (places : (List Int)) (cut : (List Int)) : M Bool := fnV .no (c__law_can_be_had size places cut)
def c_is_spaced (marks : (Int × (List Int) × (List Int))) (cut : (List Int)) : M (Out Unit Empty Bool) := if (decide ((cut.length : Int) = 0)) = true then .ok (.rt false)
    else mb (rngM 0 (cut.length : Int)) fun v402 => sq (forM (fun (k391 : Int) (s390 : Unit) =>
    mb (mb (mb (ixM cut k391) fun v392 => (.ok (!decide (v392 ∈ marks.2.1)))) fun v395 => if v395 = true then .ok true else if (decide (0 < k391)) = true then mb (ixM cut k391) fun v393 => mb (ixM cut (k391 - 1)) fun v394 => (.ok (decide (v393 ≤ v394))) else .ok false) fun v396 => if v396 = true then .ok (.rt false)
    else .ok (.nx ())) v402 ()) fun s397 =>
    mb (f_gaps_between cut marks.1) fun distances398 =>
    mb (mb (minI distances398) fun v399 => mb (maxI distances398) fun v400 => (.ok (decide (v399 = v400)))) fun v401 => .ok (.rt v401)
def f_is_spaced (marks : (Int × (List Int) × (List Int))) (cut : (List Int)) : M Bool := fnV .no (c_is_spaced marks cut)
def c_check_end (marks : (Int × (List Int) × (List Int))) (end_ : (List Int)) : M (Out Unit Empty (List Int)) := mb (mb (f_is_spaced marks end_) fun v407 => (.ok (!v407))) fun v408 => if v408 = true then .er ⟨"BadCut", [("cut", (eT eI) end_)]⟩
    else .ok (.rt end_)
def f_check_end (marks : (Int × (List Int) × (List Int))) (end_ : (List Int)) : M (List Int) := fnV .no (c_check_end marks end_)
def c_inner_marks (marks : (Int × (List Int) × (List Int))) (cut : (List Int)) : M (Out Unit Empty (List (Int × Int × Int × Int))) := let many453 := (marks.2.1.length : Int)
    mb (mb (ixM cut 0) fun v454 => ixOfM marks.2.1 v454) fun first455 =>
    mb (ixM cut 0) fun v474 => (fun (head457 : Int) (way458 : Int) =>
    mb (rngM 0 many453) fun v473 => sq (forM (fun (step460 : Int) (s459 : Int × Int × List (Int × Int × Int × Int)) =>
    mb (modM (first455 + step460) many453) fun at461 =>
    mb (ixM marks.2.1 at461) fun place462 => mb (ixM marks.2.2 at461) fun gap463 =>
    sq (if (decide (place462 ∈ cut)) = true then (fun (head467 : Int) (way468 : Int) =>
    .ok (.nx (head467, way468, s459.2.2))) place462 0 else mb (app s459.2.2 (s459.1, place462, gap463, s459.2.1)) fun found469 =>
    .ok (.nx (s459.1, s459.2.1, found469))) fun (j470 : Int × Int × List (Int × Int × Int × Int)) =>
    .ok (.nx (j470.1, (j470.2.1 + gap463), j470.2.2))) v473 (head457, way458, ([] : List (Int × Int × Int × Int)))) fun s472 =>
    .ok (.rt s472.2.2)) v474 0
def f_inner_marks (marks : (Int × (List Int) × (List Int))) (cut : (List Int)) : M (List (Int × Int × Int × Int)) := fnV .no (c_inner_marks marks cut)
def c_mark_fault (marks : (Int × (List Int) × (List Int))) (end_ : (List Int)) : M (Out Unit Empty (Option (PySem.Str × Int × Int))) := mb (mb (f_check_end marks end_) fun v480 => f_inner_marks marks v480) fun v484 => sq (forM (fun (x482 : (Int × Int × Int × Int)) (s481 : Unit) =>
    if (decide (x482.2.2.2 ≤ x482.2.2.1)) = true then .ok (.rt (some (("blocked" : PySem.Str), x482.1, x482.2.1)))
    else .ok (.nx ())) v484 ()) fun s483 =>
    .ok (.rt (none : Option (PySem.Str × Int × Int)))
def f_mark_fault (marks : (Int × (List Int) × (List Int))) (end_ : (List Int)) : M (Option (PySem.Str × Int × Int)) := fnV (.ok none) (c_mark_fault marks end_)
def c_mark_ends (marks : (Int × (List Int) × (List Int))) : M (Out Unit Empty (List (List Int))) := mb (rngM 1 ((marks.2.1.length : Int) + 1)) fun v539 => sq (forM (fun (many519 : Int) (s518 : List (List Int)) =>
    mb (mb (modM marks.1 many519) fun v520 => (.ok (decide (v520 = 0)))) fun v537 => if v537 = true then mb (divM marks.1 many519) fun arc521 =>
    mb (lcM (fun place522 => (.ok (decide (place522 < arc521)))) (fun place522 => (.ok place522)) marks.2.1) fun v536 => sq (forM (fun (first525 : Int) (s524 : List (List Int)) =>
    mb (mb (rngM 0 many519) fun v529 => mapC (fun k526 => mb (mulM arc521 k526) fun v528 => (.ok (first525 + v528))) v529) fun cut530 =>
    mb (mb (f_is_spaced marks cut530) fun v532 => if v532 = true then mb (f_mark_fault marks cut530) fun v531 => (.ok v531.isNone) else .ok false) fun v534 => if v534 = true then mb (app s524 cut530) fun ends533 =>
    .ok (.nx ends533)
    else .ok (.nx s524)) v536 s518) fun s535 =>
    .ok (.nx s535)
    else .ok (.nx s518)) v539 ([] : List (List Int))) fun s538 =>
    .ok (.rt s538)
def f_mark_ends (marks : (Int × (List Int) × (List Int))) : M (List (List Int)) := fnV .no (c_mark_ends marks)
def c__law_is_integer (actual : Int) : M (Out Unit Empty Bool) := .ok (.rt (true && (!false)))
def f__law_is_integer (actual : Int) : M Bool := fnV .no (c__law_is_integer actual)
def c__law_numbers (actual : (List Int)) (due : (List Int)) (as_tuple : Bool) : M (Out Unit Empty Bool) := if ((as_tuple && (!true)) || ((!as_tuple) && (!false))) = true then .ok (.rt false)
    else if (!decide ((actual.length : Int) = (due.length : Int))) = true then .ok (.rt false)
    else mb (rngM 0 (due.length : Int)) fun v563 => sq (forM (fun (k555 : Int) (s554 : Unit) =>
    mb (mb (mb (mb (ixM actual k555) fun v556 => f__law_is_integer v556) fun v557 => (.ok (!v557))) fun v560 => if v560 = true then .ok true else mb (ixM actual k555) fun v558 => mb (ixM due k555) fun v559 => (.ok (!decide (v558 = v559)))) fun v561 => if v561 = true then .ok (.rt false)
    else .ok (.nx ())) v563 ()) fun s562 =>
    .ok (.rt true)
def f__law_numbers (actual : (List Int)) (due : (List Int)) (as_tuple : Bool) : M Bool := fnV .no (c__law_numbers actual due as_tuple)
def c__law_ends (told : (List (List Int))) : M (Out Unit Empty (Option (List (List Int)))) := if (!true) = true then .ok (.rt (none : Option (List (List Int))))
    else sq (forM (fun (end580 : (List Int)) (s579 : List (List Int)) =>
    mb (if (!true) = true then .ok true else if (decide ((end580.length : Int) = 0)) = true then .ok true else mb (f__law_numbers end580 end580 true) fun v581 => (.ok (!v581))) fun v593 => if v593 = true then .ok (.rt (none : Option (List (List Int))))
    else mb (if (!decide (s579 = ([] : List (List Int)))) = true then mb (mb (mb (ixM end580 0) fun v582 => (.ok ((end580.length : Int), v582))) fun v587 => (.ok [v587.1, v587.2])) fun v589 => mb (mb (mb (mb (ixM s579 (-1)) fun v583 => (.ok (v583.length : Int))) fun v585 => mb (mb (ixM s579 (-1)) fun v584 => ixM v584 0) fun v586 => (.ok (v585, v586))) fun v588 => (.ok [v588.1, v588.2])) fun v590 => (.ok (leT v589 v590)) else .ok false) fun v592 => if v592 = true then .ok (.rt (none : Option (List (List Int))))
    else mb (app s579 end580) fun ends591 =>
    .ok (.nx ends591)) told ([] : List (List Int))) fun s594 =>
    .ok (.rt (some s594))
def f__law_ends (told : (List (List Int))) : M (Option (List (List Int))) := fnV (.ok none) (c__law_ends told)
def c_check_end_v1 (marks : (Int × (List Int) × (List Int))) (end_ : (List Int)) : M (Out Unit Empty (List Int)) := mb (mb (f_is_spaced marks end_) fun v607 => (.ok (!v607))) fun v608 => if v608 = true then .er ⟨"BadCut", [("cut", (eT eI) end_)]⟩
    else .ok (.rt end_)
def f_check_end_v1 (marks : (Int × (List Int) × (List Int))) (end_ : (List Int)) : M (List Int) := fnV .no (c_check_end_v1 marks end_)
def c_mark_fault_v1 (marks : (Int × (List Int) × (List Int))) (end_ : (List Int)) : M (Out Unit Empty (Option (PySem.Str × Int × Int))) := mb (mb (f_check_end_v1 marks end_) fun v614 => f_inner_marks marks v614) fun v618 => sq (forM (fun (x616 : (Int × Int × Int × Int)) (s615 : Unit) =>
    if (decide (x616.2.2.2 ≤ x616.2.2.1)) = true then .ok (.rt (some (("blocked" : PySem.Str), x616.1, x616.2.1)))
    else .ok (.nx ())) v618 ()) fun s617 =>
    .ok (.rt (none : Option (PySem.Str × Int × Int)))
def f_mark_fault_v1 (marks : (Int × (List Int) × (List Int))) (end_ : (List Int)) : M (Option (PySem.Str × Int × Int)) := fnV (.ok none) (c_mark_fault_v1 marks end_)
def c_wipe_plan (marks : (Int × (List Int) × (List Int))) (end_ : (List Int)) : M (Out Unit Empty (List Int)) := mb (f_mark_fault_v1 marks end_) fun reason623 =>
    if reason623.isSome = true then .er ⟨"NoEnd", [("reason", (eO (eP3 eS eI eI)) reason623)]⟩
    else mb (mb (f_inner_marks marks end_) fun v626 => mapC (fun x624 => (.ok x624.1)) v626) fun v627 => .ok (.rt v627)
def f_wipe_plan (marks : (Int × (List Int) × (List Int))) (end_ : (List Int)) : M (List Int) := fnV .no (c_wipe_plan marks end_)
def c__law_plan (marks : (Int × (List Int) × (List Int))) (end_ : (List Int)) : M (Out Unit Empty (Option (List Int))) := sq (tryN [] (mb (mb (f_wipe_plan marks end_) fun v628 => (.ok (some v628))) fun v629 => .ok (.rt v629)) (.ok (.rt (none : Option (List Int))))) fun (_ : Unit) =>
    .ok (.nx ())
def f__law_plan (marks : (Int × (List Int) × (List Int))) (end_ : (List Int)) : M (Option (List Int)) := fnV (.ok none) (c__law_plan marks end_)
def c__law_wipers (places : (List Int)) (size : Int) : M (Out Unit Empty (List Int)) := mb (f__law_gaps places size) fun gaps648 =>
    mb (mb (rngM 0 (gaps648.length : Int)) fun v654 => lcM (fun k649 => mb (ixM gaps648 k649) fun v652 => mb (mb (modM (k649 + 1) (gaps648.length : Int)) fun v651 => ixM gaps648 v651) fun v653 => (.ok (decide (v653 < v652)))) (fun k649 => ixM places k649) v654) fun v655 => .ok (.rt v655)
def f__law_wipers (places : (List Int)) (size : Int) : M (List Int) := fnV .no (c__law_wipers places size)
def c__law_left (places : (List Int)) (place : Int) : M (Out Unit Empty (List Int)) := mb (mb (mb (ixOfM places place) fun v661 => (.ok (v661 + 1))) fun v662 => modM v662 (places.length : Int)) fun at663 =>
    mb (catM (cut places none (some at663)) (cut places (some (at663 + 1)) none)) fun v664 => .ok (.rt v664)
def f__law_left (places : (List Int)) (place : Int) : M (List Int) := fnV .no (c__law_left places place)
def c__law_end_left (marks : (Int × (List Int) × (List Int))) (size : Int) (places : (List Int)) (end_ : (List Int)) : M (Out Unit Empty Bool) := mb (f__law_plan marks end_) fun plan671 =>
    mb (if (!(if plan671.isSome = true then true else false)) = true then .ok true else mb (mb (unO plan671) fun v672 => (.ok (v672.length : Int))) fun v673 => (.ok (!decide (v673 = (places.length : Int) - (end_.length : Int))))) fun v686 => if v686 = true then .ok (.rt false)
    else mb (unO plan671) fun v685 => sq (forM (fun (place676 : Int) (s675 : (List Int)) =>
    mb (mb (mb (f__law_is_integer place676) fun v677 => (.ok (!v677))) fun v679 => if v679 = true then .ok true else mb (f__law_wipers s675 size) fun v678 => (.ok (!decide (place676 ∈ v678)))) fun v681 => if v681 = true then .ok (.rt false)
    else mb (f__law_left s675 place676) fun left680 =>
    .ok (.nx left680)) v685 places) fun s682 =>
    mb (if (decide (s682 = end_)) = true then mb (f__law_wipers s682 size) fun v683 => (.ok (decide (v683 = ([] : List Int)))) else .ok false) fun v684 => .ok (.rt v684)
def f__law_end_left (marks : (Int × (List Int) × (List Int))) (size : Int) (places : (List Int)) (end_ : (List Int)) : M Bool := fnV .no (c__law_end_left marks size places end_)
def c__law_play (cell : Int) (size : Int) (places : (List Int)) : M (Out Unit Empty (List Int)) := mb (mb (repM [5040] (places.length : Int)) fun v708 => f__law_draws cell v708) fun draws709 =>
    mb (rngM 0 (places.length : Int)) fun v719 => sq (forM (fun (step712 : Int) (s711 : (List Int)) =>
    mb (f__law_wipers s711 size) fun wipers713 =>
    if (decide (wipers713 = ([] : List Int))) = true then .ok (.bk s711)
    else mb (mb (mb (mb (ixM draws709 step712) fun v714 => modM v714 (wipers713.length : Int)) fun v715 => ixM wipers713 v715) fun v716 => f__law_left s711 v716) fun left717 =>
    .ok (.nx left717)) v719 places) fun s718 =>
    .ok (.rt s718)
def f__law_play (cell : Int) (size : Int) (places : (List Int)) : M (List Int) := fnV .no (c__law_play cell size places)
def c_Marks___len__ (self : (Int × (List Int) × (List Int))) : M (Out Unit Empty Int) := .ok (.rt (self.2.1.length : Int))
def f_Marks___len__ (self : (Int × (List Int) × (List Int))) : M Int := fnV .no (c_Marks___len__ self)
def c__law_numbers_v1 (actual : (List Int)) (due : (List Int)) (as_tuple : Bool) : M (Out Unit Empty Bool) := if ((as_tuple && (!false)) || ((!as_tuple) && (!true))) = true then .ok (.rt false)
    else if (!decide ((actual.length : Int) = (due.length : Int))) = true then .ok (.rt false)
    else mb (rngM 0 (due.length : Int)) fun v751 => sq (forM (fun (k743 : Int) (s742 : Unit) =>
    mb (mb (mb (mb (ixM actual k743) fun v744 => f__law_is_integer v744) fun v745 => (.ok (!v745))) fun v748 => if v748 = true then .ok true else mb (ixM actual k743) fun v746 => mb (ixM due k743) fun v747 => (.ok (!decide (v746 = v747)))) fun v749 => if v749 = true then .ok (.rt false)
    else .ok (.nx ())) v751 ()) fun s750 =>
    .ok (.rt true)
def f__law_numbers_v1 (actual : (List Int)) (due : (List Int)) (as_tuple : Bool) : M Bool := fnV .no (c__law_numbers_v1 actual due as_tuple)
def c__law_is_marks (actual : (Int × (List Int) × (List Int))) (size : Int) (places : (List Int)) : M (Out Unit Empty Bool) := mb (if (!true) = true then .ok true else mb (mb (f__law_is_integer actual.1) fun v757 => (.ok (!v757))) fun v758 => (.ok (v758 || (!decide (actual.1 = size))))) fun v768 => if v768 = true then .ok (.rt false)
    else mb (mb (f__law_numbers actual.2.1 places true) fun v759 => (.ok (!v759))) fun v767 => if v767 = true then .ok (.rt false)
    else mb (mb (mb (f__law_gaps places size) fun v760 => f__law_numbers actual.2.2 v760 true) fun v761 => (.ok (!v761))) fun v766 => if v766 = true then .ok (.rt false)
    else mb (mb (mb (mb (f_Marks___len__ actual) lenO) fun v762 => (.ok (decide (v762 = (places.length : Int))))) fun v764 => if v764 = true then mb (mb (f_Marks___len__ actual) fun n => lsO n actual.2.1) fun v763 => f__law_numbers_v1 v763 places false else .ok false) fun v765 => .ok (.rt v765)
def f__law_is_marks (actual : (Int × (List Int) × (List Int))) (size : Int) (places : (List Int)) : M Bool := fnV .no (c__law_is_marks actual size places)
def c_law (script : (List Int)) : M (Out Unit Empty Bool) := mb (f__law_marks script) fun u780 =>
    mb (f_Marks___init__ u780.1 u780.2) fun marks781 =>
    mb (mb (f__law_even u780.1 u780.2) fun v784 => lcM (fun cut782 => f__law_can_be_had u780.1 u780.2 cut782) (fun cut782 => (.ok cut782)) v784) fun due785 =>
    mb (f_mark_ends marks781) fun told786 =>
    mb (mb (f__law_ends told786) fun v787 => (.ok (!decide (v787 = some due785)))) fun v818 => if v818 = true then .ok (.rt false)
    else mb (app told786 ([] : List Int)) fun told788 =>
    mb (mb (mb (f__law_cell script 5) fun v789 => f__law_draws v789 [168]) fun v790 => ixM v790 0) fun first791 =>
    mb (rngM 0 (min (due785.length : Int) 12)) fun v817 => sq (forM (fun (k793 : Int) (s792 : Unit) =>
    mb (mb (mb (mb (modM (first791 + k793) (due785.length : Int)) fun v794 => ixM due785 v794) fun v795 => f__law_end_left marks781 u780.1 u780.2 v795) fun v796 => (.ok (!v796))) fun v797 => if v797 = true then .ok (.rt false)
    else .ok (.nx ())) v817 ()) fun s798 =>
    mb (rngM 2 5) fun v816 => sq (forM (fun (k800 : Int) (s799 : Unit) =>
    mb (mb (mb (f__law_cell script k800) fun v801 => f__law_play v801 u780.1 u780.2) fun v802 => (.ok (!memB v802 due785))) fun v803 => if v803 = true then .ok (.rt false)
    else .ok (.nx ())) v816 ()) fun s804 =>
    mb (mb (mb (mb (f_mark_ends marks781) fun v805 => f__law_ends v805) fun v806 => (.ok (!decide (v806 = some due785)))) fun v808 => if v808 = true then .ok true else mb (f__law_is_marks marks781 u780.1 u780.2) fun v807 => (.ok (!v807))) fun v815 => if v815 = true then .ok (.rt false)
    else mb (mb (f__law_wipers u780.2 u780.1) fun v809 => (.ok (decide (v809 = ([] : List Int))))) fun v814 => if v814 = true then .ok (.rt (decide (due785 = [u780.2])))
    else mb (mb (mb (ixM due785 0) fun v811 => (.ok (v811.length : Int))) fun v812 => (.ok (decide (v812 = 1)))) fun v813 => .ok (.rt v813)
def f_law (script : (List Int)) : M Bool := fnV .no (c_law script)
/-! ### what the top has written -/
structure Tx (K : PySem.W.Frag) (mg : Str → Option Value) (ca : Str → Addr) (fa : Nat → Addr) (fd : Nat → FuncData) : Prop where
  F__law_cell : Fun K "_law_cell" "_law_cell" s__law_cell (fa 0) (fd 0)
  b__law_cell : Binds K (fd 0) ["script", "k"] []
  g__law_cell : mg "_law_cell" = some (.ref (fa 0))
  k__law_cell : PySem.W.keepIn K (.ref (fa 0)) = true
  F__law_draws : Fun K "_law_draws" "_law_draws" s__law_draws (fa 1) (fd 1)
  b__law_draws : Binds K (fd 1) ["cell", "sizes"] []
  g__law_draws : mg "_law_draws" = some (.ref (fa 1))
  k__law_draws : PySem.W.keepIn K (.ref (fa 1)) = true
  F__law_places : Fun K "_law_places" "_law_places" s__law_places (fa 2) (fd 2)
  b__law_places : Binds K (fd 2) ["cell", "size"] []
  g__law_places : mg "_law_places" = some (.ref (fa 2))
  k__law_places : PySem.W.keepIn K (.ref (fa 2)) = true
  F__law_marks : Fun K "_law_marks" "_law_marks" s__law_marks (fa 3) (fd 3)
  b__law_marks : Binds K (fd 3) ["script"] []
  g__law_marks : mg "_law_marks" = some (.ref (fa 3))
  k__law_marks : PySem.W.keepIn K (.ref (fa 3)) = true
  F_gaps_between : Fun K "gaps_between" "gaps_between" s_gaps_between (fa 4) (fd 4)
  b_gaps_between : Binds K (fd 4) ["places", "size"] []
  g_gaps_between : mg "gaps_between" = some (.ref (fa 4))
  k_gaps_between : PySem.W.keepIn K (.ref (fa 4)) = true
  F_Marks___init__ : Fun K "__init__" "Marks.__init__" s_Marks___init__ (fa 5) (fd 5)
  b_Marks___init__ : Binds K (fd 5) ["self", "size", "places"] []
  F__law_even : Fun K "_law_even" "_law_even" s__law_even (fa 6) (fd 6)
  b__law_even : Binds K (fd 6) ["size", "places"] []
  g__law_even : mg "_law_even" = some (.ref (fa 6))
  k__law_even : PySem.W.keepIn K (.ref (fa 6)) = true
  F__law_gaps : Fun K "_law_gaps" "_law_gaps" s__law_gaps (fa 7) (fd 7)
  b__law_gaps : Binds K (fd 7) ["places", "size"] []
  g__law_gaps : mg "_law_gaps" = some (.ref (fa 7))
  k__law_gaps : PySem.W.keepIn K (.ref (fa 7)) = true
  F__law_can_be_had : Fun K "_law_can_be_had" "_law_can_be_had" s__law_can_be_had (fa 8) (fd 8)
  b__law_can_be_had : Binds K (fd 8) ["size", "places", "cut"] []
  g__law_can_be_had : mg "_law_can_be_had" = some (.ref (fa 8))
  k__law_can_be_had : PySem.W.keepIn K (.ref (fa 8)) = true
  F_is_spaced : Fun K "is_spaced" "is_spaced" s_is_spaced (fa 9) (fd 9)
  b_is_spaced : Binds K (fd 9) ["marks", "cut"] []
  g_is_spaced : mg "is_spaced" = some (.ref (fa 9))
  k_is_spaced : PySem.W.keepIn K (.ref (fa 9)) = true
  F_check_end : Fun K "check_end" "check_end" s_check_end (fa 10) (fd 10)
  b_check_end : Binds K (fd 10) ["marks", "end"] []
  g_check_end : mg "check_end" = some (.ref (fa 10))
  k_check_end : PySem.W.keepIn K (.ref (fa 10)) = true
  F_inner_marks : Fun K "inner_marks" "inner_marks" s_inner_marks (fa 11) (fd 11)
  b_inner_marks : Binds K (fd 11) ["marks", "cut"] []
  g_inner_marks : mg "inner_marks" = some (.ref (fa 11))
  k_inner_marks : PySem.W.keepIn K (.ref (fa 11)) = true
  F_mark_fault : Fun K "mark_fault" "mark_fault" s_mark_fault (fa 12) (fd 12)
  b_mark_fault : Binds K (fd 12) ["marks", "end"] []
  g_mark_fault : mg "mark_fault" = some (.ref (fa 12))
  k_mark_fault : PySem.W.keepIn K (.ref (fa 12)) = true
  F_mark_ends : Fun K "mark_ends" "mark_ends" s_mark_ends (fa 13) (fd 13)
  b_mark_ends : Binds K (fd 13) ["marks"] []
  g_mark_ends : mg "mark_ends" = some (.ref (fa 13))
  k_mark_ends : PySem.W.keepIn K (.ref (fa 13)) = true
  F__law_is_integer : Fun K "_law_is_integer" "_law_is_integer" s__law_is_integer (fa 14) (fd 14)
  b__law_is_integer : Binds K (fd 14) ["actual"] []
  g__law_is_integer : mg "_law_is_integer" = some (.ref (fa 14))
  k__law_is_integer : PySem.W.keepIn K (.ref (fa 14)) = true
  F__law_numbers : Fun K "_law_numbers" "_law_numbers" s__law_numbers (fa 15) (fd 15)
  b__law_numbers : Binds K (fd 15) ["actual", "due", "as_tuple"] []
  g__law_numbers : mg "_law_numbers" = some (.ref (fa 15))
  k__law_numbers : PySem.W.keepIn K (.ref (fa 15)) = true
  F__law_ends : Fun K "_law_ends" "_law_ends" s__law_ends (fa 16) (fd 16)
  b__law_ends : Binds K (fd 16) ["told"] []
  g__law_ends : mg "_law_ends" = some (.ref (fa 16))
  k__law_ends : PySem.W.keepIn K (.ref (fa 16)) = true
  F_wipe_plan : Fun K "wipe_plan" "wipe_plan" s_wipe_plan (fa 17) (fd 17)
  b_wipe_plan : Binds K (fd 17) ["marks", "end"] []
  g_wipe_plan : mg "wipe_plan" = some (.ref (fa 17))
  k_wipe_plan : PySem.W.keepIn K (.ref (fa 17)) = true
  F__law_plan : Fun K "_law_plan" "_law_plan" s__law_plan (fa 18) (fd 18)
  b__law_plan : Binds K (fd 18) ["marks", "end"] []
  g__law_plan : mg "_law_plan" = some (.ref (fa 18))
  k__law_plan : PySem.W.keepIn K (.ref (fa 18)) = true
  F__law_wipers : Fun K "_law_wipers" "_law_wipers" s__law_wipers (fa 19) (fd 19)
  b__law_wipers : Binds K (fd 19) ["places", "size"] []
  g__law_wipers : mg "_law_wipers" = some (.ref (fa 19))
  k__law_wipers : PySem.W.keepIn K (.ref (fa 19)) = true
  F__law_left : Fun K "_law_left" "_law_left" s__law_left (fa 20) (fd 20)
  b__law_left : Binds K (fd 20) ["places", "place"] []
  g__law_left : mg "_law_left" = some (.ref (fa 20))
  k__law_left : PySem.W.keepIn K (.ref (fa 20)) = true
  F__law_end_left : Fun K "_law_end_left" "_law_end_left" s__law_end_left (fa 21) (fd 21)
  b__law_end_left : Binds K (fd 21) ["marks", "size", "places", "end"] []
  g__law_end_left : mg "_law_end_left" = some (.ref (fa 21))
  k__law_end_left : PySem.W.keepIn K (.ref (fa 21)) = true
  F__law_play : Fun K "_law_play" "_law_play" s__law_play (fa 22) (fd 22)
  b__law_play : Binds K (fd 22) ["cell", "size", "places"] []
  g__law_play : mg "_law_play" = some (.ref (fa 22))
  k__law_play : PySem.W.keepIn K (.ref (fa 22)) = true
  F_Marks___len__ : Fun K "__len__" "Marks.__len__" s_Marks___len__ (fa 23) (fd 23)
  b_Marks___len__ : Binds K (fd 23) ["self"] []
  F__law_is_marks : Fun K "_law_is_marks" "_law_is_marks" s__law_is_marks (fa 24) (fd 24)
  b__law_is_marks : Binds K (fd 24) ["actual", "size", "places"] []
  g__law_is_marks : mg "_law_is_marks" = some (.ref (fa 24))
  k__law_is_marks : PySem.W.keepIn K (.ref (fa 24)) = true
  F_law : Fun K "law" "law" s_law (fa 25) (fd 25)
  b_law : Binds K (fd 25) ["script"] []
  F_BadMarks___init__ : Fun K "__init__" "BadMarks.__init__" s_BadMarks___init__ (fa 26) (fd 26)
  b_BadMarks___init__ : Binds K (fd 26) ["self", "place"] []
  F_BadCut___init__ : Fun K "__init__" "BadCut.__init__" s_BadCut___init__ (fa 27) (fd 27)
  b_BadCut___init__ : Binds K (fd 27) ["self", "cut"] []
  F_NoEnd___init__ : Fun K "__init__" "NoEnd.__init__" s_NoEnd___init__ (fa 28) (fd 28)
  b_NoEnd___init__ : Binds K (fd 28) ["self", "reason"] []
  F_Marks___iter__ : Fun K "__iter__" "Marks.__iter__" s_Marks___iter__ (fa 29) (fd 29)
  b_Marks___iter__ : Binds K (fd 29) ["self"] []
  n_len : mg "len" = none
  n_int : mg "int" = none
  n_range : mg "range" = none
  n_sorted : mg "sorted" = none
  n_set : mg "set" = none
  n_min : mg "min" = none
  n_sum : mg "sum" = none
  n_list : mg "list" = none
  x_BadMarks : Xc K mg ca "BadMarks" (fa 26)
  xb_BadMarks : Binds K (fd 26) ["self", "place"] []
  xn_BadMarks_place : PySem.W.findIn K (.ref (ca "BadMarks")) "place" = some none
  cl_Marks : Cls K (ca "Marks")
  na_Marks_size : NoAttr K (ca "Marks") "size"
  n_tuple : mg "tuple" = none
  na_Marks_places : NoAttr K (ca "Marks") "places"
  na_Marks_gaps : NoAttr K (ca "Marks") "gaps"
  mk_Marks : Mk K (ca "Marks") (fa 5)
  kb0_Marks : ∃ g, KBn K (fd 5) ["self", "size", "places"] 3 [] g (fun vs zs => vs ++ zs)
  n_max : mg "max" = none
  x_BadCut : Xc K mg ca "BadCut" (fa 27)
  xb_BadCut : Binds K (fd 27) ["self", "cut"] []
  xn_BadCut_cut : PySem.W.findIn K (.ref (ca "BadCut")) "cut" = some none
  n_isinstance : mg "isinstance" = none
  n_bool : mg "bool" = none
  x_NoEnd : Xc K mg ca "NoEnd" (fa 28)
  xb_NoEnd : Binds K (fd 28) ["self", "reason"] []
  xn_NoEnd_reason : PySem.W.findIn K (.ref (ca "NoEnd")) "reason" = some none
  is_Marks : IsC K (ca "Marks")
  m_Marks___len__ : Meth K (ca "Marks") "__len__" (fa 23)
  m_Marks___iter__ : Meth K (ca "Marks") "__iter__" (fa 29)
  n_iter : mg "iter" = none
  g_Marks : mg "Marks" = some (.ref (ca "Marks"))
  gB_RetinueError : mg "RetinueError" = some (.ref (ca "RetinueError"))
section
variable {P : Program} {w : World} {K : PySem.W.Frag} {mg : Str → Option Value} {base : Heap} {ca : Str → Addr} {fa : Nat → Addr} {fd : Nat → FuncData}
theorem okI_BadMarks (T : Tx K mg ca fa fd) : FnOk P w K mg base (L2N.CX P w) 1 (fa 26) (fd 26) ["self", "place"] (spI1 K (ca "BadMarks") "place") :=
  init1_ok T.x_BadMarks T.F_BadMarks___init__ rfl sc_BadMarks___init__ T.xn_BadMarks_place (.inl rfl) (.inl rfl) (by decide) (by decide) (fun env e => by obtain ⟨⟩ := env; cases e; rfl)
theorem okI_BadCut (T : Tx K mg ca fa fd) : FnOk P w K mg base (L2N.CX P w) 1 (fa 27) (fd 27) ["self", "cut"] (spI1 K (ca "BadCut") "cut") :=
  init1_ok T.x_BadCut T.F_BadCut___init__ rfl sc_BadCut___init__ T.xn_BadCut_cut (.inl rfl) (.inl rfl) (by decide) (by decide) (fun env e => by obtain ⟨⟩ := env; cases e; rfl)
theorem okI_NoEnd (T : Tx K mg ca fa fd) : FnOk P w K mg base (L2N.CX P w) 1 (fa 28) (fd 28) ["self", "reason"] (spI1 K (ca "NoEnd") "reason") :=
  init1_ok T.x_NoEnd T.F_NoEnd___init__ rfl sc_NoEnd___init__ T.xn_NoEnd_reason (.inl rfl) (.inl rfl) (by decide) (by decide) (fun env e => by obtain ⟨⟩ := env; cases e; rfl)
theorem ok_Marks___iter__ (T : Tx K mg ca fa fd) : FnOk P w K mg base (L2N.CX P w) 1 (fa 29) (fd 29) ["self"] (spIt K (ca "Marks") "places") :=
  iter_ok T.F_Marks___iter__ sc_Marks___iter__ T.cl_Marks T.na_Marks_places (fun cdv A outer s H E => pss_cons (ps_ret (pe_callB cr_iterT rfl T.n_iter (by decide +kernel) (pa_cons (pe_fld (pv 0) rfl) pa_nil) (by decide) (by decide))) pss_never)
theorem ok__law_cell (T : Tx K mg ca fa fd) : FnOk P w K mg base (L2N.CX P w) 1 (fa 0) (fd 0) ["script", "k"] (spE K ca (xC eScr (xC eI xN)) eI fun a => f__law_cell a.1 a.2.1) :=
  fn_E (d := .no) (fn_ok (k := 0) (n := 0) (Nx := fun _ _ => []) (L := fun _ (_ : Empty) => []) (R := fun r : Int => .fr (eI r)) (encA := (xC eScr (xC eI xN))) (code := fun a => c__law_cell a.1 a.2.1) T.F__law_cell sc__law_cell (fun _ => rfl) rfl fun cdv A outer s G H E a C => by
    obtain ⟨script, k, u0⟩ := a
    show DSs _ _ [.fr (eScr script), .fr (eI k)] _ _ _ _ _
    exact ss_eq (ss_ifX (t_cmp c_lt (b_e (e_var (z := k) (enc := eI) 1 rfl (pv 1))) (b_e (e_lenS T.n_len (pa_cons (e_var (z := script) (enc := eScr) 0 rfl (pv 0)) pa_nil))) rfl) (ss_ret (enc := eI) (g := fun z => z) (e_intI T.n_int (pa_cons (e_ixS (e_var (z := script) (enc := eScr) 0 rfl (pv 0)) (e_var (z := k) (enc := eI) 1 rfl (pv 1))) pa_nil)) Wk.nil (fun _ => rfl)) (nn_mb fun _ => nn_rt) (ss_ret (enc := eI) (g := fun z => z) e_int Wk.nil (fun _ => rfl)) Wk.nil) (by simp only [mbk, mba, sqk, sqa, c__law_cell])) (.inl rfl)
theorem ok__law_draws (T : Tx K mg ca fa fd) : FnOk P w K mg base (L2N.CX P w) 1 (fa 1) (fd 1) ["cell", "sizes"] (spO K ca (xC eI (xL eI xN)) eI fun a => f__law_draws a.1 a.2.1) :=
  fn_O (fn_ok (k := 0) (n := 4) (Nx := fun _ _ => []) (L := fun _ (_ : Empty) => []) (R := fun r : (List Int) => .ow (r.map eI)) (encA := (xC eI (xL eI xN))) (code := fun a => c__law_draws a.1 a.2.1) T.F__law_draws sc__law_draws (fun _ => rfl) rfl fun cdv A outer s G H E a C => by
    obtain ⟨cell, sizes, u0⟩ := a
    show DSs _ _ [.fr (eI cell), .ln (List.map eI sizes), .un, .un, .un, .un] _ _ _ _ _
    exact ss_eq (ss_asg (enc := eI) (i := 2) C.nd (e_intI T.n_int (pa_cons (e_var (z := cell) (enc := eI) 0 rfl (pv 0)) pa_nil)) (fun left56 => (ss_asgO (i := 3) C.nd (o_lst (enc := eI) (g := fun _ => []) a_nil (fun _ => rfl) (fun _ => small_line (Nat.zero_le _))) (fun draws57 => (ss_for (L := fun (s58 : Int × List Int) => [.fr (eI cell), .ln (List.map eI sizes), .fr (eI s58.1), .ow (List.map eI s58.2), .un, .un]) (left56, draws57) C (i_range1 rfl T.n_range (pa_cons (e_lenL (enc := eI) T.n_len (pa_cons (l_var (z := sizes) (enc := eI) 1 rfl (pv 1)) pa_nil)) pa_nil)) (g_name (enc := eI) (i := 4) C.nd) (wk_e (wk_e (wk_e (wk_e (wk_u (wk_u wk_n)))))) Wk.nil (fun k59 s58 => (ss_ifL (t_cmp c_ge (b_e (e_var (z := cell) (enc := eI) 0 rfl (pv 0))) (b_e (e_pow e_int e_int)) rfl) (ss_app (enc := eI) (xs := s58.2) 3 rfl (pv 3) (e_mod (e_intI T.n_int (pa_cons (e_var (z := s58.1) (enc := eI) 2 rfl (pv 2)) pa_nil)) (e_ixL (enc := eI) (l_var (z := sizes) (enc := eI) 1 rfl (pv 1)) (e_var (z := k59) (enc := eI) 4 rfl (pv 4)))) (fun draws62 => (ss_asg (enc := eI) (i := 2) C.nd (e_div (e_intI T.n_int (pa_cons (e_var (z := s58.1) (enc := eI) 2 rfl (pv 2)) pa_nil)) (e_ixL (enc := eI) (l_var (z := sizes) (enc := eI) 1 rfl (pv 1)) (e_var (z := k59) (enc := eI) 4 rfl (pv 4)))) (fun left64 => (ss_nil (b := (left64, draws62)) (wk_e (wk_e (wk_e (wk_e (wk_u (wk_u wk_n)))))))) Wk.nil)) Wk.nil (pe_bm PySem.F.plainAttrs_list PySem.F.slot_list_append PySem.F.type_list_append mt_append (pv 3) (pa_cons (e_mod (e_intI T.n_int (pa_cons (e_var (z := s58.1) (enc := eI) 2 rfl (pv 2)) pa_nil)) (e_ixL (enc := eI) (l_var (z := sizes) (enc := eI) 1 rfl (pv 1)) (e_var (z := k59) (enc := eI) 4 rfl (pv 4)))) pa_nil))) (ss_asg (enc := eI) (i := 5) C.nd (e_mod (e_intI T.n_int (pa_cons (e_add (e_add (e_var (z := cell) (enc := eI) 0 rfl (pv 0)) (e_mul e_int (e_var (z := k59) (enc := eI) 4 rfl (pv 4)))) e_int) pa_nil)) e_int) (fun mixed69 => (ss_asg (enc := eI) (i := 5) C.nd (e_mod (e_intI T.n_int (pa_cons (e_mul (e_var (z := mixed69) (enc := eI) 5 rfl (pv 5)) (e_add (e_var (z := mixed69) (enc := eI) 5 rfl (pv 5)) e_int)) pa_nil)) e_int) (fun mixed71 => (ss_asg (enc := eI) (i := 5) C.nd (e_mod (e_intI T.n_int (pa_cons (e_add (e_mul (e_var (z := mixed71) (enc := eI) 5 rfl (pv 5)) (e_add (e_var (z := mixed71) (enc := eI) 5 rfl (pv 5)) e_int)) (e_mul e_int (e_var (z := k59) (enc := eI) 4 rfl (pv 4)))) pa_nil)) e_int) (fun mixed75 => (ss_app (enc := eI) (xs := s58.2) 3 rfl (pv 3) (e_mod (e_intI T.n_int (pa_cons (e_div (e_var (z := mixed75) (enc := eI) 5 rfl (pv 5)) e_int) pa_nil)) (e_ixL (enc := eI) (l_var (z := sizes) (enc := eI) 1 rfl (pv 1)) (e_var (z := k59) (enc := eI) 4 rfl (pv 4)))) (fun draws78 => (ss_nil (b := (s58.1, draws78)) (wk_e (wk_e (wk_e (wk_e (wk_u (wk_u wk_n)))))))) Wk.nil (pe_bm PySem.F.plainAttrs_list PySem.F.slot_list_append PySem.F.type_list_append mt_append (pv 3) (pa_cons (e_mod (e_intI T.n_int (pa_cons (e_div (e_var (z := mixed75) (enc := eI) 5 rfl (pv 5)) e_int) pa_nil)) (e_ixL (enc := eI) (l_var (z := sizes) (enc := eI) 1 rfl (pv 1)) (e_var (z := k59) (enc := eI) 4 rfl (pv 4)))) pa_nil)))) Wk.nil)) Wk.nil)) Wk.nil) Wk.nil)) (fun s81 => (ss_retV (r := s81.2) 3 rfl rfl (pv 3))))) Wk.nil)) Wk.nil) (by simp only [mbk, mba, sqk, sqa, c__law_draws]))
theorem ok__law_places (T : Tx K mg ca fa fd) : FnOk P w K mg base (L2N.CX P w) 2 (fa 2) (fd 2) ["cell", "size"] (spO K ca (xC eI (xC eI xN)) eI fun a => f__law_places a.1 a.2.1) :=
  fn_O (fn_ok (k := 1) (n := 3) (Nx := fun _ _ => []) (L := fun _ (_ : Empty) => []) (R := fun r : (List Int) => .ow (r.map eI)) (encA := (xC eI (xC eI xN))) (code := fun a => c__law_places a.1 a.2.1) T.F__law_places sc__law_places (fun _ => rfl) rfl fun cdv A outer s G H E a C => by
    obtain ⟨cell, size, u0⟩ := a
    show DSs _ _ [.fr (eI cell), .fr (eI size), .un, .un, .un] _ _ _ _ _
    exact ss_eq (ss_asgO (i := 2) C.nd (o_call C (by decide) (ok__law_draws T) T.g__law_draws T.k__law_draws T.b__law_draws (x_cons (e_var (z := cell) (enc := eI) 0 rfl (pv 0)) (x_consL (b_e (e_o (o_lst (enc := eI) (g := fun z : Int × Int × Int × Unit => [z.1, z.2.1, z.2.2.1]) (a_cons e_int (a_cons e_int (a_cons (e_var (z := size) (enc := eI) 1 rfl (pv 1)) a_nil))) (fun _ => rfl) (fun _ => small_line (by show 3 ≤ 1000; decide))))) x_nil))) (fun head111 => (ss_ifX (t_cmp c_eq (b_e (e_ixL (enc := eI) (b_var (z := head111) (enc := eI) 2 rfl (pv 2)) e_int)) (b_e e_int) rfl) (ss_retO (enc := eI) (g := fun z => z) (o_sortSet C.calm T.n_sorted T.n_set seqI_L (pa_cons (b_e (e_o (o_cutL (enc := eI) (b_e (e_o (o_call C (by decide) (ok__law_draws T) T.g__law_draws T.k__law_draws T.b__law_draws (x_cons (e_var (z := cell) (enc := eI) 0 rfl (pv 0)) (x_consL (b_e (e_o (o_cat (enc := eI) (b_e (e_o (o_lst (enc := eI) (g := fun z : Int × Int × Int × Unit => [z.1, z.2.1, z.2.2.1]) (a_cons e_int (a_cons e_int (a_cons (e_var (z := size) (enc := eI) 1 rfl (pv 1)) a_nil))) (fun _ => rfl) (fun _ => small_line (by show 3 ≤ 1000; decide))))) (b_e (e_o (o_rep (enc := eI) (b_e (e_o (o_lst (enc := eI) (g := fun z : Int × Unit => [z.1]) (a_cons (e_var (z := size) (enc := eI) 1 rfl (pv 1)) a_nil) (fun _ => rfl) (fun _ => small_line (by show 1 ≤ 1000; decide))))) e_int)))))) x_nil))))) (p_some e_int) (p_some (e_add e_int (e_ixL (enc := eI) (b_var (z := head111) (enc := eI) 2 rfl (pv 2)) e_int)))))) pa_nil)) Wk.nil (fun _ => rfl)) (nn_mb fun _ => nn_rt) (ss_asgO (i := 3) C.nd (o_cutL (enc := eI) (b_e (e_o (o_call C (by decide) (ok__law_draws T) T.g__law_draws T.k__law_draws T.b__law_draws (x_cons (e_var (z := cell) (enc := eI) 0 rfl (pv 0)) (x_consL (b_e (e_o (o_cat (enc := eI) (b_e (e_o (o_lst (enc := eI) (g := fun z : Int × Int × Int × Unit => [z.1, z.2.1, z.2.2.1]) (a_cons e_int (a_cons e_int (a_cons (e_var (z := size) (enc := eI) 1 rfl (pv 1)) a_nil))) (fun _ => rfl) (fun _ => small_line (by show 3 ≤ 1000; decide))))) (b_e (e_o (o_rep (enc := eI) (b_e (e_o (o_lst (enc := eI) (g := fun z : Int × Unit => [z.1]) (a_cons e_int a_nil) (fun _ => rfl) (fun _ => small_line (by show 1 ≤ 1000; decide))))) (e_var (z := size) (enc := eI) 1 rfl (pv 1)))))))) x_nil))))) (p_some e_int) p_none) (fun chosen124 => (ss_retO (enc := eI) (g := fun z => z) (o_lc1 (ow := [("place", 4)]) (enb := eI) C (i_range1 rfl T.n_range (pa_cons (e_var (z := size) (enc := eI) 1 rfl (pv 1)) pa_nil)) (blkOk_by (N := ["cell", "size", "head", "chosen", "place"]) (sc := defScope s__law_places) (by decide +kernel)) (fun _ _ _ _ _ => pg_name (i := 4) sc__law_places.nd rfl (Or.inl rfl)) (gs_name (enc := eI) (i := 4) (by decide)) (fun _ _ _ _ _ C126 place125 => (t_w (w_or (t_cmp c_eq (b_e (e_ixL (enc := eI) (b_var (z := chosen124) (enc := eI) 3 rfl (pv 3)) (e_var (z := place125) (enc := eI) 4 rfl (pv 4)))) (b_e e_int) rfl) (w_or1 (t_cmp c_eq (b_e (e_var (z := place125) (enc := eI) 4 rfl (pv 4))) (b_e (e_ixL (enc := eI) (b_var (z := head111) (enc := eI) 2 rfl (pv 2)) e_int)) rfl))))) (fun _ _ _ _ _ C126 place125 => (e_var (z := place125) (enc := eI) 4 rfl (pv 4)))) Wk.nil (fun _ => rfl))) Wk.nil) Wk.nil)) Wk.nil) (by simp only [mbk, mba, sqk, sqa, c__law_places]))
theorem ok__law_marks (T : Tx K mg ca fa fd) : FnOk P w K mg base (L2N.CX P w) 3 (fa 3) (fd 3) ["script"] (spE K ca (xC eScr xN) (eP2 eI (eL eI)) fun a => f__law_marks a.1) :=
  fn_E (d := .no) (fn_ok (k := 2) (n := 11) (Nx := fun _ _ => []) (L := fun _ (_ : Empty) => []) (R := fun r : (Int × (List Int)) => .fr ((eP2 eI (eL eI)) r)) (encA := (xC eScr xN)) (code := fun a => c__law_marks a.1) T.F__law_marks sc__law_marks (fun _ => rfl) rfl fun cdv A outer s G H E a C => by
    obtain ⟨script, u0⟩ := a
    show DSs _ _ [.fr (eScr script), .un, .un, .un, .un, .un, .un, .un, .un, .un, .un, .un] _ _ _ _ _
    exact ss_eq (ss_asgG (enc := (eH3 eI eI eI)) (e_un un3_ok (e_o (o_call C (by decide) (ok__law_draws T) T.g__law_draws T.k__law_draws T.b__law_draws (x_cons (e_call C (by decide) (ok__law_cell T) T.g__law_cell T.k__law_cell T.b__law_cell (x_cons (e_var (z := script) (enc := eScr) 0 rfl (pv 0)) (x_cons e_int x_nil))) (x_consL (b_e (e_o (o_lst (enc := eI) (g := fun z : Int × Int × Int × Unit => [z.1, z.2.1, z.2.2.1]) (a_cons e_int (a_cons e_int (a_cons e_int a_nil))) (fun _ => rfl) (fun _ => small_line (by show 3 ≤ 1000; decide))))) x_nil))))) (g_unl (enc := (eH3 eI eI eI)) C.calm (gs_cons (d := fun z : (Int × Int × Int) => eI z.1) (i := 1) C.nd (gs_cons (d := fun z : (Int × Int × Int) => eI z.2.1) (i := 2) C.nd (gs_cons (d := fun z : (Int × Int × Int) => eI z.2.2) (i := 3) C.nd (gs_nil (β := (Int × Int × Int)))))) (fun _ => rfl) (fun _ => rfl)) (fun u161 => (ss_asg (enc := eI) (i := 4) C.nd (e_call C (by decide) (ok__law_cell T) T.g__law_cell T.k__law_cell T.b__law_cell (x_cons (e_var (z := script) (enc := eScr) 0 rfl (pv 0)) (x_cons e_int x_nil))) (fun cell162 => (ss_ifX (t_cmp c_ge (b_e (e_var (z := u161.1) (enc := eI) 1 rfl (pv 1))) (b_e e_int) rfl) (ss_asg (enc := eI) (i := 5) C.nd (e_add e_int (e_ixL (enc := eI) (b_e (e_o (o_lst (enc := eI) (g := fun z : Int × Int × Unit => [z.1, z.2.1]) (a_cons (e_mod (e_intI T.n_int (pa_cons (e_var (z := u161.2.1) (enc := eI) 2 rfl (pv 2)) pa_nil)) e_int) (a_cons (e_var (z := u161.2.1) (enc := eI) 2 rfl (pv 2)) a_nil)) (fun _ => rfl) (fun _ => small_line (by show 2 ≤ 1000; decide))))) (e_intB T.n_int (pa_cons (e_cmp c_eq (b_e (e_var (z := u161.1) (enc := eI) 1 rfl (pv 1))) (b_e e_int) rfl) pa_nil)))) (fun size166 => (ss_ret (enc := (eP2 eI (eL eI))) (g := fun z => z) (e_tupG (enc := (eP2 eI (eL eI))) (g := fun z : Int × (List Int) × Unit => (z.1, z.2.1)) (a_cons (e_var (z := size166) (enc := eI) 5 rfl (pv 5)) (a_cons (e_o (o_call C (by decide) (ok__law_places T) T.g__law_places T.k__law_places T.b__law_places (x_cons (e_var (z := cell162) (enc := eI) 4 rfl (pv 4)) (x_cons (e_var (z := size166) (enc := eI) 5 rfl (pv 5)) x_nil)))) a_nil)) (fun _ => rfl) (fun _ => small_line (by show 2 ≤ 1000; decide))) Wk.nil (fun _ => rfl))) Wk.nil) (nn_mb fun size166 => (nn_mb fun _ => nn_rt)) (ss_asgO (i := 6) C.nd (o_call C (by decide) (ok__law_draws T) T.g__law_draws T.k__law_draws T.b__law_draws (x_cons (e_var (z := cell162) (enc := eI) 4 rfl (pv 4)) (x_consL (b_e (e_o (o_cat (enc := eI) (b_e (e_o (o_lst (enc := eI) (g := fun z : Int × Int × Unit => [z.1, z.2.1]) (a_cons e_int (a_cons e_int a_nil)) (fun _ => rfl) (fun _ => small_line (by show 2 ≤ 1000; decide))))) (b_e (e_o (o_rep (enc := eI) (b_e (e_o (o_lst (enc := eI) (g := fun z : Int × Unit => [z.1]) (a_cons e_int a_nil) (fun _ => rfl) (fun _ => small_line (by show 1 ≤ 1000; decide))))) e_int)))))) x_nil))) (fun draws171 => (ss_asgLc0 (i := 7) (ow := [("gap", 11)]) (enb := eI) C (i_list (enc := eI) (e_o (o_cutL (enc := eI) (b_var (z := draws171) (enc := eI) 6 rfl (pv 6)) (p_some e_int) (p_some (e_add e_int (e_ixL (enc := eI) (b_var (z := draws171) (enc := eI) 6 rfl (pv 6)) e_int)))))) (blkOk_by (N := ["script", "kind", "wide", "first", "cell", "size", "draws", "block", "gaps", "places", "at", "gap"]) (sc := defScope s__law_marks) (by decide +kernel)) (fun _ _ _ _ _ => pg_name (i := 11) sc__law_marks.nd rfl (Or.inl rfl)) (gs_name (enc := eI) (i := 11) (by decide)) (fun _ _ _ _ _ C176 gap175 => (e_add e_int (e_var (z := gap175) (enc := eI) 11 rfl (pv 11)))) (fun block178 => (ss_asgO (i := 8) C.nd (o_rep (enc := eI) (b_var (z := block178) (enc := eI) 7 rfl (pv 7)) (e_add e_int (e_mod (e_intI T.n_int (pa_cons (e_ixL (enc := eI) (b_var (z := draws171) (enc := eI) 6 rfl (pv 6)) e_int) pa_nil)) (e_min2 C.calm T.n_min (pa_cons e_int (pa_cons (e_div e_int (e_sum C.calm T.n_sum (pa_cons (b_var (z := block178) (enc := eI) 7 rfl (pv 7)) pa_nil))) pa_nil)))))) (fun gaps184 => (ss_asg (enc := eI) (i := 5) C.nd (e_sum C.calm T.n_sum (pa_cons (b_var (z := gaps184) (enc := eI) 8 rfl (pv 8)) pa_nil)) (fun size185 => (ss_asgO (i := 9) C.nd (o_lst (enc := eI) (g := fun _ => []) a_nil (fun _ => rfl) (fun _ => small_line (Nat.zero_le _))) (fun places186 => (ss_asg (enc := eI) (i := 10) C.nd (e_var (z := u161.2.2) (enc := eI) 3 rfl (pv 3)) (fun at187 => (ss_frz 8 rfl (ss_for (L := fun (s188 : Int × List Int) => [.fr (eScr script), .fr (eI u161.1), .fr (eI u161.2.1), .fr (eI u161.2.2), .fr (eI cell162), .fr (eI size185), .ow (List.map eI draws171), .ow (List.map eI block178), .fr ((eL eI) gaps184), .ow (List.map eI s188.2), .fr (eI s188.1), .un]) (at187, places186) C (i_list (enc := eI) (e_var (z := gaps184) (enc := (eL eI)) 8 rfl (pv 8))) (g_name (enc := eI) (i := 11) C.nd) (wk_e (wk_e (wk_e (wk_e (wk_e (wk_e (wk_e (wk_e (wk_e (wk_e (wk_e (wk_u wk_n)))))))))))) Wk.nil (fun gap189 s188 => (ss_app (enc := eI) (xs := s188.2) 9 rfl (pv 9) (e_mod (e_intI T.n_int (pa_cons (e_var (z := s188.1) (enc := eI) 10 rfl (pv 10)) pa_nil)) (e_var (z := size185) (enc := eI) 5 rfl (pv 5))) (fun places190 => (ss_asg (enc := eI) (i := 10) C.nd (e_add (e_var (z := s188.1) (enc := eI) 10 rfl (pv 10)) (e_var (z := gap189) (enc := eI) 11 rfl (pv 11))) (fun at191 => (ss_nil (b := (at191, places190)) (wk_e (wk_e (wk_e (wk_e (wk_e (wk_e (wk_e (wk_e (wk_e (wk_e (wk_e (wk_u wk_n)))))))))))))) Wk.nil)) Wk.nil (pe_bm PySem.F.plainAttrs_list PySem.F.slot_list_append PySem.F.type_list_append mt_append (pv 9) (pa_cons (e_mod (e_intI T.n_int (pa_cons (e_var (z := s188.1) (enc := eI) 10 rfl (pv 10)) pa_nil)) (e_var (z := size185) (enc := eI) 5 rfl (pv 5))) pa_nil)))) (fun s193 => (ss_ret (enc := (eP2 eI (eL eI))) (g := fun z => z) (e_tupG (enc := (eP2 eI (eL eI))) (g := fun z : Int × (List Int) × Unit => (z.1, z.2.1)) (a_cons (e_var (z := size185) (enc := eI) 5 rfl (pv 5)) (a_cons (e_o (o_sorted T.n_sorted (pa_cons (b_var (z := s193.2) (enc := eI) 9 rfl (pv 9)) pa_nil))) a_nil)) (fun _ => rfl) (fun _ => small_line (by show 2 ≤ 1000; decide))) Wk.nil (fun _ => rfl)))))) Wk.nil)) Wk.nil)) Wk.nil)) Wk.nil)) Wk.nil)) Wk.nil) Wk.nil)) Wk.nil)) Wk.nil) (by simp only [mbk, mba, sqk, sqa, c__law_marks])) (.inl rfl)
theorem ok_gaps_between (T : Tx K mg ca fa fd) : FnOk P w K mg base (L2N.CX P w) 1 (fa 4) (fd 4) ["places", "size"] (spE K ca (xC (eT eI) (xC eI xN)) (eT eI) fun a => f_gaps_between a.1 a.2.1) :=
  fn_E (d := .no) (fn_ok (k := 0) (n := 2) (Nx := fun _ _ => []) (L := fun _ (_ : Empty) => []) (R := fun r : (List Int) => .fr ((eT eI) r)) (encA := (xC (eT eI) (xC eI xN))) (code := fun a => c_gaps_between a.1 a.2.1) T.F_gaps_between sc_gaps_between (fun _ => rfl) rfl fun cdv A outer s G H E a C => by
    obtain ⟨places, size, u0⟩ := a
    show DSs _ _ [.fr ((eT eI) places), .fr (eI size), .un, .un] _ _ _ _ _
    exact ss_eq (ss_asg (enc := eI) (i := 2) C.nd (e_lenT (enc := eI) T.n_len (pa_cons (e_var (z := places) (enc := (eT eI)) 0 rfl (pv 0)) pa_nil)) (fun many211 => (ss_ret (enc := (eT eI)) (g := fun z => z) (e_tuple (enc := eI) T.n_tuple (pa_cons (b_e (e_o (o_lc0 (ow := [("k", 3)]) (enb := eI) C (i_range1 rfl T.n_range (pa_cons (e_var (z := many211) (enc := eI) 2 rfl (pv 2)) pa_nil)) (blkOk_by (N := ["places", "size", "many", "k"]) (sc := defScope s_gaps_between) (by decide +kernel)) (fun _ _ _ _ _ => pg_name (i := 3) sc_gaps_between.nd rfl (Or.inl rfl)) (gs_name (enc := eI) (i := 3) (by decide)) (fun _ _ _ _ _ C213 k212 => (e_add (e_mod (e_sub (e_sub (e_ixT (enc := eI) (e_var (z := places) (enc := (eT eI)) 0 rfl (pv 0)) (e_mod (e_add (e_var (z := k212) (enc := eI) 3 rfl (pv 3)) e_int) (e_var (z := many211) (enc := eI) 2 rfl (pv 2)))) (e_ixT (enc := eI) (e_var (z := places) (enc := (eT eI)) 0 rfl (pv 0)) (e_var (z := k212) (enc := eI) 3 rfl (pv 3)))) e_int) (e_var (z := size) (enc := eI) 1 rfl (pv 1))) e_int))))) pa_nil)) Wk.nil (fun _ => rfl))) Wk.nil) (by simp only [mbk, mba, sqk, sqa, c_gaps_between])) (.inl rfl)
theorem ok_Marks___init__ (T : Tx K mg ca fa fd) : FnOk P w K mg base (L2N.CX P w) 4 (fa 5) (fd 5) ["self", "size", "places"] (spN K ca "Marks" (xC eI (xL eI xN)) fun a => mb (f_Marks___init__ a.1 a.2.1) fun r => .ok (fC_Marks r)) :=
  fn_I (fn_init (k := 3) (n := 2) (Nx := fun p _ b => [.nw p "Marks" (fC_Marks b)]) (L := fun _ (_ : Empty) => []) (R := fun _ : Unit => .fr .non) (Fl := fC_Marks) (encA := (xC eI (xL eI xN))) (code := fun a => c_Marks___init__ a.1 a.2.1) (funD_of T.F_Marks___init__) sc_Marks___init__ (fun _ => rfl) rfl (fun _ _ _ => rfl) fun cdv A outer s G H E a p C => by
    obtain ⟨size, places, u0⟩ := a
    show DSs _ _ [.nw p "Marks" [], .fr (eI size), .ln (List.map eI places), .un, .un] _ _ _ _ _
    exact ss_eq (ss_ifX (t_cmp c_eq (b_e (e_lenL (enc := eI) T.n_len (pa_cons (l_var (z := places) (enc := eI) 2 rfl (pv 2)) pa_nil))) (b_e e_int) rfl) (ss_raise1 (enc := eI) C (by decide) T.x_BadMarks (okI_BadMarks T) T.xb_BadMarks (pa_cons (e_neg e_int) pa_nil) Wk.nil) (nn_mb fun _ => nn_er) (ss_dnewV (i := 3) V.bl C.nd (ss_for (L := fun (s223 : List (Int × Bool)) => [.nw p "Marks" [], .fr (eI size), .ln (List.map eI places), .dk (kvV V.bl s223), .un]) ([] : List (Int × Bool)) C (i_ln (enc := eI) (z := places) 2 rfl (pv 2)) (g_name (enc := eI) (i := 4) C.nd) (wk_e (wk_e (wk_e (wk_e (wk_u wk_n))))) Wk.nil (fun place224 s223 => (ss_ifX (t_w (w_orP (t_cmp c_lt (b_e (e_var (z := place224) (enc := eI) 4 rfl (pv 4))) (b_e e_int) rfl) (w_orP (t_cmp c_ge (b_e (e_var (z := place224) (enc := eI) 4 rfl (pv 4))) (b_e (e_var (z := size) (enc := eI) 1 rfl (pv 1))) rfl) (w_or1 (t_din (vd := V.bl) (kvs := s223) C 3 rfl (pv 3) (e_var (z := place224) (enc := eI) 4 rfl (pv 4)))) rfl) rfl)) (ss_raise1 (enc := eI) C (by decide) T.x_BadMarks (okI_BadMarks T) T.xb_BadMarks (pa_cons (e_var (z := place224) (enc := eI) 4 rfl (pv 4)) pa_nil) Wk.nil) (nn_mb fun _ => nn_er) (ss_dput (enc := eB) (vd := V.bl) (kvs := s223) vd_bl C 3 rfl (pv 3) e_bl (e_var (z := place224) (enc := eI) 4 rfl (pv 4)) (fun seen225 => (ss_nil (b := seen225) (wk_e (wk_e (wk_e (wk_e (wk_u wk_n))))))) Wk.nil) Wk.nil)) (fun s226 => (ss_sfld (enc := eI) 0 rfl (pv 0) T.cl_Marks T.na_Marks_size (by show (0 : Nat) < 1000; decide) (e_var (z := size) (enc := eI) 1 rfl (pv 1)) (fun size227 => (ss_sfld (enc := (eF eI)) 0 rfl (pv 0) T.cl_Marks T.na_Marks_places (by show (1 : Nat) < 1000; decide) (e_tupleF (enc := eI) T.n_tuple (pa_cons (b_e (e_o (o_sorted T.n_sorted (pa_cons (l_var (z := places) (enc := eI) 2 rfl (pv 2)) pa_nil)))) pa_nil)) (fun places228 => (ss_sfld (enc := (eT eI)) 0 rfl (pv 0) T.cl_Marks T.na_Marks_gaps (by show (2 : Nat) < 1000; decide) (e_call C (by decide) (ok_gaps_between T) T.g_gaps_between T.k_gaps_between T.b_gaps_between (x_cons (e_FT (e_sfld (z := places228) (enc := (eF eI)) 0 rfl (pv 0) T.cl_Marks T.na_Marks_places (by rfl))) (x_cons (e_var (z := size) (enc := eI) 1 rfl (pv 1)) x_nil))) (fun gaps229 => (ss_nil (b := (⟨size227, places228, gaps229⟩ : (Int × (List Int) × (List Int)))) (wk_e wk_n))) Wk.nil)) Wk.nil)) Wk.nil)))) Wk.nil) (by simp only [mbk, mba, sqk, sqa, c_Marks___init__])) fun _ => rfl
theorem ok__law_even (T : Tx K mg ca fa fd) : FnOk P w K mg base (L2N.CX P w) 1 (fa 6) (fd 6) ["size", "places"] (spO K ca (xC eI (xL eI xN)) (eL eI) fun a => f__law_even a.1 a.2.1) :=
  fn_O (fn_ok (k := 0) (n := 8) (Nx := fun _ _ => []) (L := fun _ (_ : Empty) => []) (R := fun r : (List (List Int)) => .ow (r.map (eL eI))) (encA := (xC eI (xL eI xN))) (code := fun a => c__law_even a.1 a.2.1) T.F__law_even sc__law_even (fun _ => rfl) rfl fun cdv A outer s G H E a C => by
    obtain ⟨size, places, u0⟩ := a
    show DSs _ _ [.fr (eI size), .ln (List.map eI places), .un, .un, .un, .un, .un, .un, .un, .un] _ _ _ _ _
    exact ss_eq (ss_asgO (i := 2) C.nd (o_lst (enc := (eL eI)) (g := fun _ => []) a_nil (fun _ => rfl) (fun _ => small_line (Nat.zero_le _))) (fun found283 => (ss_for (L := fun (s288 : List (List Int)) => [.fr (eI size), .ln (List.map eI places), .ow (List.map (eL eI) s288), .un, .un, .un, .un, .un, .un, .un]) found283 C (i_list (enc := eI) (e_o (o_lc1 (ow := [("one", 7)]) (enb := eI) C (i_range2 rfl T.n_range (pa_cons e_int (pa_cons (e_add (e_lenL (enc := eI) T.n_len (pa_cons (l_var (z := places) (enc := eI) 1 rfl (pv 1)) pa_nil)) e_int) pa_nil))) (blkOk_by (N := ["size", "places", "found", "many", "arc", "first", "cut", "one", "place", "k"]) (sc := defScope s__law_even) (by decide +kernel)) (fun _ _ _ _ _ => pg_name (i := 7) sc__law_even.nd rfl (Or.inl rfl)) (gs_name (enc := eI) (i := 7) (by decide)) (fun _ _ _ _ _ C285 one284 => (t_cmp c_eq (b_e (e_mod (e_intI T.n_int (pa_cons (e_var (z := size) (enc := eI) 0 rfl (pv 0)) pa_nil)) (e_var (z := one284) (enc := eI) 7 rfl (pv 7)))) (b_e e_int) rfl)) (fun _ _ _ _ _ C285 one284 => (e_var (z := one284) (enc := eI) 7 rfl (pv 7)))))) (g_name (enc := eI) (i := 3) C.nd) (wk_e (wk_e (wk_e (wk_u (wk_u (wk_u (wk_u (wk_u (wk_u (wk_u wk_n)))))))))) Wk.nil (fun many289 s288 => (ss_asg (enc := eI) (i := 4) C.nd (e_div (e_var (z := size) (enc := eI) 0 rfl (pv 0)) (e_var (z := many289) (enc := eI) 3 rfl (pv 3))) (fun arc290 => (ss_for (L := fun (s293 : List (List Int)) => [.fr (eI size), .ln (List.map eI places), .ow (List.map (eL eI) s293), .fr (eI many289), .fr (eI arc290), .un, .un, .un, .un, .un]) s288 C (i_list (enc := eI) (e_o (o_lc1 (ow := [("place", 8)]) (enb := eI) C (i_ln (enc := eI) (z := places) 1 rfl (pv 1)) (blkOk_by (N := ["size", "places", "found", "many", "arc", "first", "cut", "one", "place", "k"]) (sc := defScope s__law_even) (by decide +kernel)) (fun _ _ _ _ _ => pg_name (i := 8) sc__law_even.nd rfl (Or.inl rfl)) (gs_name (enc := eI) (i := 8) (by decide)) (fun _ _ _ _ _ C292 place291 => (t_cmp c_lt (b_e (e_var (z := place291) (enc := eI) 8 rfl (pv 8))) (b_e (e_var (z := arc290) (enc := eI) 4 rfl (pv 4))) rfl)) (fun _ _ _ _ _ C292 place291 => (e_var (z := place291) (enc := eI) 8 rfl (pv 8)))))) (g_name (enc := eI) (i := 5) C.nd) (wk_e (wk_e (wk_e (wk_e (wk_e (wk_u (wk_u (wk_u (wk_u (wk_u wk_n)))))))))) Wk.nil (fun first294 s293 => (ss_asgLc0 (i := 6) (ow := [("k", 9)]) (enb := eI) C (i_range1 rfl T.n_range (pa_cons (e_var (z := many289) (enc := eI) 3 rfl (pv 3)) pa_nil)) (blkOk_by (N := ["size", "places", "found", "many", "arc", "first", "cut", "one", "place", "k"]) (sc := defScope s__law_even) (by decide +kernel)) (fun _ _ _ _ _ => pg_name (i := 9) sc__law_even.nd rfl (Or.inl rfl)) (gs_name (enc := eI) (i := 9) (by decide)) (fun _ _ _ _ _ C296 k295 => (e_add (e_var (z := first294) (enc := eI) 5 rfl (pv 5)) (e_mul (e_var (z := arc290) (enc := eI) 4 rfl (pv 4)) (e_var (z := k295) (enc := eI) 9 rfl (pv 9))))) (fun cut299 => (ss_frz 6 rfl (ss_ifL (t_cmp (c_eqD (pd_lst pd_int) (by decide) C.room.units) (b_e (e_o (o_lc1 (ow := [("place", 8)]) (enb := eI) C (i_list (enc := eI) (e_var (z := cut299) (enc := (eL eI)) 6 rfl (pv 6))) (blkOk_by (N := ["size", "places", "found", "many", "arc", "first", "cut", "one", "place", "k"]) (sc := defScope s__law_even) (by decide +kernel)) (fun _ _ _ _ _ => pg_name (i := 8) sc__law_even.nd rfl (Or.inl rfl)) (gs_name (enc := eI) (i := 8) (by decide)) (fun _ _ _ _ _ C301 place300 => (t_cmp c_notIn (b_e (e_var (z := place300) (enc := eI) 8 rfl (pv 8))) (l_var (z := places) (enc := eI) 1 rfl (pv 1)) rfl)) (fun _ _ _ _ _ C301 place300 => (e_var (z := place300) (enc := eI) 8 rfl (pv 8)))))) (b_e (e_o (o_lst (enc := eI) (g := fun _ => []) a_nil (fun _ => rfl) (fun _ => small_line (Nat.zero_le _))))) rfl) (ss_app (enc := (eL eI)) (xs := s293) 2 rfl (pv 2) (e_var (z := cut299) (enc := (eL eI)) 6 rfl (pv 6)) (fun found303 => (ss_nil (b := found303) (wk_e (wk_e (wk_e (wk_e (wk_e (wk_u (wk_u (wk_u (wk_u (wk_u wk_n)))))))))))) Wk.nil (pe_bm PySem.F.plainAttrs_list PySem.F.slot_list_append PySem.F.type_list_append mt_append (pv 2) (pa_cons (e_var (z := cut299) (enc := (eL eI)) 6 rfl (pv 6)) pa_nil))) (ss_nil (b := s293) (wk_e (wk_e (wk_e (wk_e (wk_e (wk_u (wk_u (wk_u (wk_u (wk_u wk_n))))))))))) Wk.nil))) Wk.nil)) (fun s305 => (ss_nil (b := s305) (wk_e (wk_e (wk_e (wk_u (wk_u (wk_u (wk_u (wk_u (wk_u (wk_u wk_n)))))))))))))) Wk.nil)) (fun s307 => (ss_retV (r := s307) 2 rfl rfl (pv 2))))) Wk.nil) (by simp only [mbk, mba, sqk, sqa, c__law_even]))
theorem ok__law_gaps (T : Tx K mg ca fa fd) : FnOk P w K mg base (L2N.CX P w) 1 (fa 7) (fd 7) ["places", "size"] (spO K ca (xL eI (xC eI xN)) eI fun a => f__law_gaps a.1 a.2.1) :=
  fn_O (fn_ok (k := 0) (n := 2) (Nx := fun _ _ => []) (L := fun _ (_ : Empty) => []) (R := fun r : (List Int) => .ow (r.map eI)) (encA := (xL eI (xC eI xN))) (code := fun a => c__law_gaps a.1 a.2.1) T.F__law_gaps sc__law_gaps (fun _ => rfl) rfl fun cdv A outer s G H E a C => by
    obtain ⟨places, size, u0⟩ := a
    show DSs _ _ [.ln (List.map eI places), .fr (eI size), .un, .un] _ _ _ _ _
    exact ss_eq (ss_asg (enc := eI) (i := 2) C.nd (e_lenL (enc := eI) T.n_len (pa_cons (l_var (z := places) (enc := eI) 0 rfl (pv 0)) pa_nil)) (fun many321 => (ss_retO (enc := eI) (g := fun z => z) (o_lc0 (ow := [("k", 3)]) (enb := eI) C (i_range1 rfl T.n_range (pa_cons (e_var (z := many321) (enc := eI) 2 rfl (pv 2)) pa_nil)) (blkOk_by (N := ["places", "size", "many", "k"]) (sc := defScope s__law_gaps) (by decide +kernel)) (fun _ _ _ _ _ => pg_name (i := 3) sc__law_gaps.nd rfl (Or.inl rfl)) (gs_name (enc := eI) (i := 3) (by decide)) (fun _ _ _ _ _ C323 k322 => (e_add (e_mod (e_intI T.n_int (pa_cons (e_sub (e_sub (e_ixL (enc := eI) (l_var (z := places) (enc := eI) 0 rfl (pv 0)) (e_mod (e_intI T.n_int (pa_cons (e_add (e_var (z := k322) (enc := eI) 3 rfl (pv 3)) e_int) pa_nil)) (e_var (z := many321) (enc := eI) 2 rfl (pv 2)))) (e_ixL (enc := eI) (l_var (z := places) (enc := eI) 0 rfl (pv 0)) (e_var (z := k322) (enc := eI) 3 rfl (pv 3)))) e_int) pa_nil)) (e_var (z := size) (enc := eI) 1 rfl (pv 1))) e_int))) Wk.nil (fun _ => rfl))) Wk.nil) (by simp only [mbk, mba, sqk, sqa, c__law_gaps]))
theorem ok__law_can_be_had (T : Tx K mg ca fa fd) : FnOk P w K mg base (L2N.CX P w) 2 (fa 8) (fd 8) ["size", "places", "cut"] (spE K ca (xC eI (xL eI (xL eI xN))) eB fun a => f__law_can_be_had a.1 a.2.1 a.2.2.1) :=
  fn_E (d := .no) (fn_ok (k := 1) (n := 3) (Nx := fun _ _ => []) (L := fun _ (_ : Empty) => []) (R := fun r : Bool => .fr (eB r)) (encA := (xC eI (xL eI (xL eI xN)))) (code := fun a => c__law_can_be_had a.1 a.2.1 a.2.2.1) T.F__law_can_be_had sc__law_can_be_had (fun _ => rfl) rfl fun cdv A outer s G H E a C => by
    obtain ⟨size, places, cut, u0⟩ := a
    show DSs _ _ [.fr (eI size), .ln (List.map eI places), .ln (List.map eI cut), .un, .un, .un] _ _ _ _ _
    exact ss_eq (ss_asgO (i := 3) C.nd (o_call C (by decide) (ok__law_gaps T) T.g__law_gaps T.k__law_gaps T.b__law_gaps (x_consL (l_var (z := places) (enc := eI) 1 rfl (pv 1)) (x_cons (e_var (z := size) (enc := eI) 0 rfl (pv 0)) x_nil))) (fun gaps347 => (ss_for (L := fun (s348 : Unit) => [.fr (eI size), .ln (List.map eI places), .ln (List.map eI cut), .ow (List.map eI gaps347), .un, .un]) () C (i_range1 rfl T.n_range (pa_cons (e_lenL (enc := eI) T.n_len (pa_cons (l_var (z := places) (enc := eI) 1 rfl (pv 1)) pa_nil)) pa_nil)) (g_name (enc := eI) (i := 4) C.nd) (wk_e (wk_e (wk_e (wk_e (wk_u (wk_u wk_n)))))) Wk.nil (fun k349 s348 => (ss_ifX (t_w (w_and (t_cmp c_notIn (b_e (e_ixL (enc := eI) (l_var (z := places) (enc := eI) 1 rfl (pv 1)) (e_var (z := k349) (enc := eI) 4 rfl (pv 4)))) (l_var (z := cut) (enc := eI) 2 rfl (pv 2)) rfl) (w_and1 (t_cmp c_ge (b_e (e_ixL (enc := eI) (b_var (z := gaps347) (enc := eI) 3 rfl (pv 3)) (e_var (z := k349) (enc := eI) 4 rfl (pv 4)))) (b_e (e_minL C.calm T.n_min (pa_cons (b_e (e_o (o_lc0 (ow := [("head", 5)]) (enb := eI) C (i_ln (enc := eI) (z := cut) 2 rfl (pv 2)) (blkOk_by (N := ["size", "places", "cut", "gaps", "k", "head"]) (sc := defScope s__law_can_be_had) (by decide +kernel)) (fun _ _ _ _ _ => pg_name (i := 5) sc__law_can_be_had.nd rfl (Or.inl rfl)) (gs_name (enc := eI) (i := 5) (by decide)) (fun _ _ _ _ _ C352 head351 => (e_mod (e_intI T.n_int (pa_cons (e_sub (e_ixL (enc := eI) (l_var (z := places) (enc := eI) 1 rfl (pv 1)) (e_var (z := k349) (enc := eI) 4 rfl (pv 4))) (e_var (z := head351) (enc := eI) 5 rfl (pv 5))) pa_nil)) (e_var (z := size) (enc := eI) 0 rfl (pv 0))))))) pa_nil))) rfl)))) (ss_ret (enc := eB) (g := fun z => z) e_bl Wk.nil (fun _ => rfl)) (nn_mb fun _ => nn_rt) (ss_nil (b := ()) (wk_e (wk_e (wk_e (wk_e (wk_u (wk_u wk_n))))))) Wk.nil)) (fun s360 => (ss_ret (enc := eB) (g := fun z => z) e_bl Wk.nil (fun _ => rfl))))) Wk.nil) (by simp only [mbk, mba, sqk, sqa, c__law_can_be_had])) (.inl rfl)
theorem ok_is_spaced (T : Tx K mg ca fa fd) : FnOk P w K mg base (L2N.CX P w) 2 (fa 9) (fd 9) ["marks", "cut"] (spE K ca (xC eC_Marks (xC (eT eI) xN)) eB fun a => f_is_spaced a.1 a.2.1) :=
  fn_E (d := .no) (fn_ok (k := 1) (n := 2) (Nx := fun _ _ => []) (L := fun _ (_ : Empty) => []) (R := fun r : Bool => .fr (eB r)) (encA := (xC eC_Marks (xC (eT eI) xN))) (code := fun a => c_is_spaced a.1 a.2.1) T.F_is_spaced sc_is_spaced (fun _ => rfl) rfl fun cdv A outer s G H E a C => by
    obtain ⟨marks, cut, u0⟩ := a
    show DSs _ _ [.fr (eC_Marks marks), .fr ((eT eI) cut), .un, .un] _ _ _ _ _
    exact ss_eq (ss_ifX (t_cmp c_eq (b_e (e_lenT (enc := eI) T.n_len (pa_cons (e_var (z := cut) (enc := (eT eI)) 1 rfl (pv 1)) pa_nil))) (b_e e_int) rfl) (ss_ret (enc := eB) (g := fun z => z) e_bl Wk.nil (fun _ => rfl)) (nn_mb fun _ => nn_rt) (ss_for (L := fun (s390 : Unit) => [.fr (eC_Marks marks), .fr ((eT eI) cut), .un, .un]) () C (i_range1 rfl T.n_range (pa_cons (e_lenT (enc := eI) T.n_len (pa_cons (e_var (z := cut) (enc := (eT eI)) 1 rfl (pv 1)) pa_nil)) pa_nil)) (g_name (enc := eI) (i := 2) C.nd) (wk_e (wk_e (wk_u (wk_u wk_n)))) Wk.nil (fun k391 s390 => (ss_ifX (t_w (w_or (t_cmp c_notInT (b_e (e_ixT (enc := eI) (e_var (z := cut) (enc := (eT eI)) 1 rfl (pv 1)) (e_var (z := k391) (enc := eI) 2 rfl (pv 2)))) (b_e (e_FT (e_fld (g := fun z : (Int × (List Int) × (List Int)) => z.2.1) (enb := (eF eI)) (e_var (z := marks) (enc := eC_Marks) 0 rfl (pv 0)) T.cl_Marks T.na_Marks_places fC_Marks_places))) rfl) (w_or1 (t_w (w_and (t_cmp c_gt (b_e (e_var (z := k391) (enc := eI) 2 rfl (pv 2))) (b_e e_int) rfl) (w_and1 (t_cmp c_le (b_e (e_ixT (enc := eI) (e_var (z := cut) (enc := (eT eI)) 1 rfl (pv 1)) (e_var (z := k391) (enc := eI) 2 rfl (pv 2)))) (b_e (e_ixT (enc := eI) (e_var (z := cut) (enc := (eT eI)) 1 rfl (pv 1)) (e_sub (e_var (z := k391) (enc := eI) 2 rfl (pv 2)) e_int))) rfl))))))) (ss_ret (enc := eB) (g := fun z => z) e_bl Wk.nil (fun _ => rfl)) (nn_mb fun _ => nn_rt) (ss_nil (b := ()) (wk_e (wk_e (wk_u (wk_u wk_n))))) Wk.nil)) (fun s397 => (ss_asg (enc := (eT eI)) (i := 3) C.nd (e_call C (by decide) (ok_gaps_between T) T.g_gaps_between T.k_gaps_between T.b_gaps_between (x_cons (e_var (z := cut) (enc := (eT eI)) 1 rfl (pv 1)) (x_cons (e_fld (g := fun z : (Int × (List Int) × (List Int)) => z.1) (enb := eI) (e_var (z := marks) (enc := eC_Marks) 0 rfl (pv 0)) T.cl_Marks T.na_Marks_size fC_Marks_size) x_nil))) (fun distances398 => (ss_ret (enc := eB) (g := fun z => z) (e_cmp c_eq (b_e (e_minT C.calm (by have := C.room.units; omega) T.n_min (pa_cons (e_var (z := distances398) (enc := (eT eI)) 3 rfl (pv 3)) pa_nil))) (b_e (e_maxT C.calm (by have := C.room.units; omega) T.n_max (pa_cons (e_var (z := distances398) (enc := (eT eI)) 3 rfl (pv 3)) pa_nil))) rfl) Wk.nil (fun _ => rfl))) Wk.nil))) Wk.nil) (by simp only [mbk, mba, sqk, sqa, c_is_spaced])) (.inl rfl)
theorem ok_check_end (T : Tx K mg ca fa fd) : FnOk P w K mg base (L2N.CX P w) 4 (fa 10) (fd 10) ["marks", "end"] (spE K ca (xC eC_Marks (xC (eT eI) xN)) (eT eI) fun a => f_check_end a.1 a.2.1) :=
  fn_E (d := .no) (fn_ok (k := 3) (n := 1) (Nx := fun _ _ => []) (L := fun _ (_ : Empty) => []) (R := fun r : (List Int) => .fr ((eT eI) r)) (encA := (xC eC_Marks (xC (eT eI) xN))) (code := fun a => c_check_end a.1 a.2.1) T.F_check_end sc_check_end (fun _ => rfl) rfl fun cdv A outer s G H E a C => by
    obtain ⟨marks, end_, u0⟩ := a
    show DSs _ _ [.fr (eC_Marks marks), .fr ((eT eI) end_), .un] _ _ _ _ _
    exact ss_eq (ss_asg (enc := (eT eI)) (i := 2) C.nd (e_tupleT (enc := eI) T.n_tuple (pa_cons (e_var (z := end_) (enc := (eT eI)) 1 rfl (pv 1)) pa_nil)) (fun cut406 => (ss_ifX (t_not (t_val (e_call C (by decide) (ok_is_spaced T) T.g_is_spaced T.k_is_spaced T.b_is_spaced (x_cons (e_var (z := marks) (enc := eC_Marks) 0 rfl (pv 0)) (x_cons (e_var (z := cut406) (enc := (eT eI)) 2 rfl (pv 2)) x_nil))))) (ss_raise1 (enc := (eT eI)) C (by decide) T.x_BadCut (okI_BadCut T) T.xb_BadCut (pa_cons (e_var (z := cut406) (enc := (eT eI)) 2 rfl (pv 2)) pa_nil) Wk.nil) (nn_mb fun _ => nn_er) (ss_ret (enc := (eT eI)) (g := fun z => z) (e_var (z := cut406) (enc := (eT eI)) 2 rfl (pv 2)) Wk.nil (fun _ => rfl)) Wk.nil)) Wk.nil) (by simp only [mbk, mba, sqk, sqa, c_check_end])) (.inl rfl)
theorem ok_inner_marks (T : Tx K mg ca fa fd) : FnOk P w K mg base (L2N.CX P w) 1 (fa 11) (fd 11) ["marks", "cut"] (spO K ca (xC eC_Marks (xC (eT eI) xN)) (eP4 eI eI eI eI) fun a => f_inner_marks a.1 a.2.1) :=
  fn_O (fn_ok (k := 0) (n := 9) (Nx := fun _ _ => []) (L := fun _ (_ : Empty) => []) (R := fun r : (List (Int × Int × Int × Int)) => .ow (r.map (eP4 eI eI eI eI))) (encA := (xC eC_Marks (xC (eT eI) xN))) (code := fun a => c_inner_marks a.1 a.2.1) T.F_inner_marks sc_inner_marks (fun _ => rfl) rfl fun cdv A outer s G H E a C => by
    obtain ⟨marks, cut, u0⟩ := a
    show DSs _ _ [.fr (eC_Marks marks), .fr ((eT eI) cut), .un, .un, .un, .un, .un, .un, .un, .un, .un] _ _ _ _ _
    exact ss_eq (ss_asg (enc := eI) (i := 2) C.nd (e_lenT (enc := eI) T.n_len (pa_cons (e_FT (e_fld (g := fun z : (Int × (List Int) × (List Int)) => z.2.1) (enb := (eF eI)) (e_var (z := marks) (enc := eC_Marks) 0 rfl (pv 0)) T.cl_Marks T.na_Marks_places fC_Marks_places)) pa_nil)) (fun many453 => (ss_asg (enc := eI) (i := 3) C.nd (e_indexF (pe_ixF (e_fld (g := fun z : (Int × (List Int) × (List Int)) => z.2.1) (enb := (eF eI)) (e_var (z := marks) (enc := eC_Marks) 0 rfl (pv 0)) T.cl_Marks T.na_Marks_places fC_Marks_places) (pa_cons (e_ixT (enc := eI) (e_var (z := cut) (enc := (eT eI)) 1 rfl (pv 1)) e_int) pa_nil))) (fun first455 => (ss_asgO (i := 4) C.nd (o_lst (enc := (eP4 eI eI eI eI)) (g := fun _ => []) a_nil (fun _ => rfl) (fun _ => small_line (Nat.zero_le _))) (fun found456 => (ss_par2 (enc := eI) (encb := eI) (i := 5) (j := 6) C.calm C.nd (e_ixT (enc := eI) (e_var (z := cut) (enc := (eT eI)) 1 rfl (pv 1)) e_int) e_int (fun head457 way458 => (ss_for (L := fun (s459 : Int × Int × List (Int × Int × Int × Int)) => [.fr (eC_Marks marks), .fr ((eT eI) cut), .fr (eI many453), .fr (eI first455), .ow (List.map (eP4 eI eI eI eI) s459.2.2), .fr (eI s459.1), .fr (eI s459.2.1), .un, .un, .un, .un]) (head457, way458, found456) C (i_range1 rfl T.n_range (pa_cons (e_var (z := many453) (enc := eI) 2 rfl (pv 2)) pa_nil)) (g_name (enc := eI) (i := 7) C.nd) (wk_e (wk_e (wk_e (wk_e (wk_e (wk_e (wk_e (wk_u (wk_u (wk_u (wk_u wk_n))))))))))) Wk.nil (fun step460 s459 => (ss_asg (enc := eI) (i := 8) C.nd (e_mod (e_add (e_var (z := first455) (enc := eI) 3 rfl (pv 3)) (e_var (z := step460) (enc := eI) 7 rfl (pv 7))) (e_var (z := many453) (enc := eI) 2 rfl (pv 2))) (fun at461 => (ss_par2 (enc := eI) (encb := eI) (i := 9) (j := 10) C.calm C.nd (e_ixT (enc := eI) (e_FT (e_fld (g := fun z : (Int × (List Int) × (List Int)) => z.2.1) (enb := (eF eI)) (e_var (z := marks) (enc := eC_Marks) 0 rfl (pv 0)) T.cl_Marks T.na_Marks_places fC_Marks_places)) (e_var (z := at461) (enc := eI) 8 rfl (pv 8))) (e_ixT (enc := eI) (e_fld (g := fun z : (Int × (List Int) × (List Int)) => z.2.2) (enb := (eT eI)) (e_var (z := marks) (enc := eC_Marks) 0 rfl (pv 0)) T.cl_Marks T.na_Marks_gaps fC_Marks_gaps) (e_var (z := at461) (enc := eI) 8 rfl (pv 8))) (fun place462 gap463 => (ss_if (N := fun (j470 : Int × Int × List (Int × Int × Int × Int)) => [.fr (eC_Marks marks), .fr ((eT eI) cut), .fr (eI many453), .fr (eI first455), .ow (List.map (eP4 eI eI eI eI) j470.2.2), .fr (eI j470.1), .fr (eI j470.2.1), .fr (eI step460), .fr (eI at461), .fr (eI place462), .fr (eI gap463)]) (t_cmp c_inT (b_e (e_var (z := place462) (enc := eI) 9 rfl (pv 9))) (b_e (e_var (z := cut) (enc := (eT eI)) 1 rfl (pv 1))) rfl) (ss_par2 (enc := eI) (encb := eI) (i := 5) (j := 6) C.calm C.nd (e_var (z := place462) (enc := eI) 9 rfl (pv 9)) e_int (fun head467 way468 => (ss_nil (b := (head467, way468, s459.2.2)) (wk_e (wk_e (wk_e (wk_e (wk_e (wk_e (wk_e (wk_e (wk_e (wk_e (wk_e wk_n))))))))))))) Wk.nil) (ss_app (enc := (eP4 eI eI eI eI)) (xs := s459.2.2) 4 rfl (pv 4) (e_tupG (enc := (eP4 eI eI eI eI)) (g := fun z : Int × Int × Int × Int × Unit => (z.1, z.2.1, z.2.2.1, z.2.2.2.1)) (a_cons (e_var (z := s459.1) (enc := eI) 5 rfl (pv 5)) (a_cons (e_var (z := place462) (enc := eI) 9 rfl (pv 9)) (a_cons (e_var (z := gap463) (enc := eI) 10 rfl (pv 10)) (a_cons (e_var (z := s459.2.1) (enc := eI) 6 rfl (pv 6)) a_nil)))) (fun _ => rfl) (fun _ => small_line (by show 4 ≤ 1000; decide))) (fun found469 => (ss_nil (b := (s459.1, s459.2.1, found469)) (wk_e (wk_e (wk_e (wk_e (wk_e (wk_e (wk_e (wk_e (wk_e (wk_e (wk_e wk_n))))))))))))) Wk.nil (pe_bm PySem.F.plainAttrs_list PySem.F.slot_list_append PySem.F.type_list_append mt_append (pv 4) (pa_cons (e_tupG (enc := (eP4 eI eI eI eI)) (g := fun z : Int × Int × Int × Int × Unit => (z.1, z.2.1, z.2.2.1, z.2.2.2.1)) (a_cons (e_var (z := s459.1) (enc := eI) 5 rfl (pv 5)) (a_cons (e_var (z := place462) (enc := eI) 9 rfl (pv 9)) (a_cons (e_var (z := gap463) (enc := eI) 10 rfl (pv 10)) (a_cons (e_var (z := s459.2.1) (enc := eI) 6 rfl (pv 6)) a_nil)))) (fun _ => rfl) (fun _ => small_line (by show 4 ≤ 1000; decide))) pa_nil))) (fun j470 => (ss_asg (enc := eI) (i := 6) C.nd (e_add (e_var (z := j470.2.1) (enc := eI) 6 rfl (pv 6)) (e_var (z := gap463) (enc := eI) 10 rfl (pv 10))) (fun way471 => (ss_nil (b := (j470.1, way471, j470.2.2)) (wk_e (wk_e (wk_e (wk_e (wk_e (wk_e (wk_e (wk_u (wk_u (wk_u (wk_u wk_n))))))))))))) Wk.nil)) Wk.nil)) Wk.nil)) Wk.nil)) (fun s472 => (ss_retV (r := s472.2.2) 4 rfl rfl (pv 4))))) Wk.nil)) Wk.nil)) Wk.nil)) Wk.nil) (by simp only [mbk, mba, sqk, sqa, c_inner_marks]))
theorem ok_mark_fault (T : Tx K mg ca fa fd) : FnOk P w K mg base (L2N.CX P w) 5 (fa 12) (fd 12) ["marks", "end"] (spE K ca (xC eC_Marks (xC (eT eI) xN)) (eO (eP3 eS eI eI)) fun a => f_mark_fault a.1 a.2.1) :=
  fn_E (d := (.ok none)) (fn_ok (k := 4) (n := 4) (Nx := fun _ _ => []) (L := fun _ (_ : Empty) => []) (R := fun r : (Option (PySem.Str × Int × Int)) => .fr ((eO (eP3 eS eI eI)) r)) (encA := (xC eC_Marks (xC (eT eI) xN))) (code := fun a => c_mark_fault a.1 a.2.1) T.F_mark_fault sc_mark_fault (fun _ => rfl) rfl fun cdv A outer s G H E a C => by
    obtain ⟨marks, end_, u0⟩ := a
    show DSs _ _ [.fr (eC_Marks marks), .fr ((eT eI) end_), .un, .un, .un, .un] _ _ _ _ _
    exact ss_eq (ss_for (L := fun (s481 : Unit) => [.fr (eC_Marks marks), .fr ((eT eI) end_), .un, .un, .un, .un]) () C (i_list (enc := (eP4 eI eI eI eI)) (e_o (o_call C (by decide) (ok_inner_marks T) T.g_inner_marks T.k_inner_marks T.b_inner_marks (x_cons (e_var (z := marks) (enc := eC_Marks) 0 rfl (pv 0)) (x_cons (e_call C (by decide) (ok_check_end T) T.g_check_end T.k_check_end T.b_check_end (x_cons (e_var (z := marks) (enc := eC_Marks) 0 rfl (pv 0)) (x_cons (e_var (z := end_) (enc := (eT eI)) 1 rfl (pv 1)) x_nil))) x_nil))))) (g_tup (enc := (eP4 eI eI eI eI)) C.calm (gs_cons (d := fun z : (Int × Int × Int × Int) => eI z.1) (i := 2) C.nd (gs_cons (d := fun z : (Int × Int × Int × Int) => eI z.2.1) (i := 3) C.nd (gs_cons (d := fun z : (Int × Int × Int × Int) => eI z.2.2.1) (i := 4) C.nd (gs_cons (d := fun z : (Int × Int × Int × Int) => eI z.2.2.2) (i := 5) C.nd (gs_nil (β := (Int × Int × Int × Int))))))) (fun _ => rfl) (fun _ => rfl)) (wk_e (wk_e (wk_u (wk_u (wk_u (wk_u wk_n)))))) Wk.nil (fun x482 s481 => (ss_ifX (t_cmp c_ge (b_e (e_var (z := x482.2.2.1) (enc := eI) 4 rfl (pv 4))) (b_e (e_var (z := x482.2.2.2) (enc := eI) 5 rfl (pv 5))) rfl) (ss_ret (enc := (eO (eP3 eS eI eI))) (g := fun z => z) (e_conv (enb := (eO (eP3 eS eI eI))) (fun z : (PySem.Str × Int × Int) => (some z)) (e_tupG (enc := (eP3 eS eI eI)) (g := fun z : PySem.Str × Int × Int × Unit => (z.1, z.2.1, z.2.2.1)) (a_cons e_str (a_cons (e_var (z := x482.1) (enc := eI) 2 rfl (pv 2)) (a_cons (e_var (z := x482.2.1) (enc := eI) 3 rfl (pv 3)) a_nil))) (fun _ => rfl) (fun _ => small_line (by show 3 ≤ 1000; decide))) (fun _ => rfl)) Wk.nil (fun _ => rfl)) (nn_mb fun _ => nn_rt) (ss_nil (b := ()) (wk_e (wk_e (wk_u (wk_u (wk_u (wk_u wk_n))))))) Wk.nil)) (fun s483 => (ss_ret (enc := (eO (eP3 eS eI eI))) (g := fun z => z) (e_none (enc := (eP3 eS eI eI)) e_non) Wk.nil (fun _ => rfl)))) (by simp only [mbk, mba, sqk, sqa, c_mark_fault])) (.inr ⟨_, rfl, rfl⟩)
theorem ok_mark_ends (T : Tx K mg ca fa fd) : FnOk P w K mg base (L2N.CX P w) 6 (fa 13) (fd 13) ["marks"] (spO K ca (xC eC_Marks xN) (eT eI) fun a => f_mark_ends a.1) :=
  fn_O (fn_ok (k := 5) (n := 7) (Nx := fun _ _ => []) (L := fun _ (_ : Empty) => []) (R := fun r : (List (List Int)) => .ow (r.map (eT eI))) (encA := (xC eC_Marks xN)) (code := fun a => c_mark_ends a.1) T.F_mark_ends sc_mark_ends (fun _ => rfl) rfl fun cdv A outer s G H E a C => by
    obtain ⟨marks, u0⟩ := a
    show DSs _ _ [.fr (eC_Marks marks), .un, .un, .un, .un, .un, .un, .un] _ _ _ _ _
    exact ss_eq (ss_asgO (i := 1) C.nd (o_lst (enc := (eT eI)) (g := fun _ => []) a_nil (fun _ => rfl) (fun _ => small_line (Nat.zero_le _))) (fun ends517 => (ss_for (L := fun (s518 : List (List Int)) => [.fr (eC_Marks marks), .ow (List.map (eT eI) s518), .un, .un, .un, .un, .un, .un]) ends517 C (i_range2 rfl T.n_range (pa_cons e_int (pa_cons (e_add (e_lenT (enc := eI) T.n_len (pa_cons (e_FT (e_fld (g := fun z : (Int × (List Int) × (List Int)) => z.2.1) (enb := (eF eI)) (e_var (z := marks) (enc := eC_Marks) 0 rfl (pv 0)) T.cl_Marks T.na_Marks_places fC_Marks_places)) pa_nil)) e_int) pa_nil))) (g_name (enc := eI) (i := 2) C.nd) (wk_e (wk_e (wk_u (wk_u (wk_u (wk_u (wk_u (wk_u wk_n)))))))) Wk.nil (fun many519 s518 => (ss_ifL (t_cmp c_eq (b_e (e_mod (e_fld (g := fun z : (Int × (List Int) × (List Int)) => z.1) (enb := eI) (e_var (z := marks) (enc := eC_Marks) 0 rfl (pv 0)) T.cl_Marks T.na_Marks_size fC_Marks_size) (e_var (z := many519) (enc := eI) 2 rfl (pv 2)))) (b_e e_int) rfl) (ss_asg (enc := eI) (i := 3) C.nd (e_div (e_fld (g := fun z : (Int × (List Int) × (List Int)) => z.1) (enb := eI) (e_var (z := marks) (enc := eC_Marks) 0 rfl (pv 0)) T.cl_Marks T.na_Marks_size fC_Marks_size) (e_var (z := many519) (enc := eI) 2 rfl (pv 2))) (fun arc521 => (ss_for (L := fun (s524 : List (List Int)) => [.fr (eC_Marks marks), .ow (List.map (eT eI) s524), .fr (eI many519), .fr (eI arc521), .un, .un, .un, .un]) s518 C (i_list (enc := eI) (e_o (o_lc1 (ow := [("place", 6)]) (enb := eI) C (i_tup (enc := eI) (e_FT (e_fld (g := fun z : (Int × (List Int) × (List Int)) => z.2.1) (enb := (eF eI)) (e_var (z := marks) (enc := eC_Marks) 0 rfl (pv 0)) T.cl_Marks T.na_Marks_places fC_Marks_places))) (blkOk_by (N := ["marks", "ends", "many", "arc", "first", "cut", "place", "k"]) (sc := defScope s_mark_ends) (by decide +kernel)) (fun _ _ _ _ _ => pg_name (i := 6) sc_mark_ends.nd rfl (Or.inl rfl)) (gs_name (enc := eI) (i := 6) (by decide)) (fun _ _ _ _ _ C523 place522 => (t_cmp c_lt (b_e (e_var (z := place522) (enc := eI) 6 rfl (pv 6))) (b_e (e_var (z := arc521) (enc := eI) 3 rfl (pv 3))) rfl)) (fun _ _ _ _ _ C523 place522 => (e_var (z := place522) (enc := eI) 6 rfl (pv 6)))))) (g_name (enc := eI) (i := 4) C.nd) (wk_e (wk_e (wk_e (wk_e (wk_u (wk_u (wk_u (wk_u wk_n)))))))) Wk.nil (fun first525 s524 => (ss_asg (enc := (eT eI)) (i := 5) C.nd (e_tuple (enc := eI) T.n_tuple (pa_cons (b_e (e_o (o_lc0 (ow := [("k", 7)]) (enb := eI) C (i_range1 rfl T.n_range (pa_cons (e_var (z := many519) (enc := eI) 2 rfl (pv 2)) pa_nil)) (blkOk_by (N := ["marks", "ends", "many", "arc", "first", "cut", "place", "k"]) (sc := defScope s_mark_ends) (by decide +kernel)) (fun _ _ _ _ _ => pg_name (i := 7) sc_mark_ends.nd rfl (Or.inl rfl)) (gs_name (enc := eI) (i := 7) (by decide)) (fun _ _ _ _ _ C527 k526 => (e_add (e_var (z := first525) (enc := eI) 4 rfl (pv 4)) (e_mul (e_var (z := arc521) (enc := eI) 3 rfl (pv 3)) (e_var (z := k526) (enc := eI) 7 rfl (pv 7)))))))) pa_nil)) (fun cut530 => (ss_ifL (t_w (w_and (t_val (e_call C (by decide) (ok_is_spaced T) T.g_is_spaced T.k_is_spaced T.b_is_spaced (x_cons (e_var (z := marks) (enc := eC_Marks) 0 rfl (pv 0)) (x_cons (e_var (z := cut530) (enc := (eT eI)) 5 rfl (pv 5)) x_nil)))) (w_and1 (t_cmp (c_isN (fun _ h => by cases h)) (b_e (e_call C (by decide) (ok_mark_fault T) T.g_mark_fault T.k_mark_fault T.b_mark_fault (x_cons (e_var (z := marks) (enc := eC_Marks) 0 rfl (pv 0)) (x_cons (e_var (z := cut530) (enc := (eT eI)) 5 rfl (pv 5)) x_nil)))) (b_e e_non) rfl)))) (ss_app (enc := (eT eI)) (xs := s524) 1 rfl (pv 1) (e_var (z := cut530) (enc := (eT eI)) 5 rfl (pv 5)) (fun ends533 => (ss_nil (b := ends533) (wk_e (wk_e (wk_e (wk_e (wk_u (wk_u (wk_u (wk_u wk_n)))))))))) Wk.nil (pe_bm PySem.F.plainAttrs_list PySem.F.slot_list_append PySem.F.type_list_append mt_append (pv 1) (pa_cons (e_var (z := cut530) (enc := (eT eI)) 5 rfl (pv 5)) pa_nil))) (ss_nil (b := s524) (wk_e (wk_e (wk_e (wk_e (wk_u (wk_u (wk_u (wk_u wk_n))))))))) Wk.nil)) Wk.nil)) (fun s535 => (ss_nil (b := s535) (wk_e (wk_e (wk_u (wk_u (wk_u (wk_u (wk_u (wk_u wk_n)))))))))))) Wk.nil) (ss_nil (b := s518) (wk_e (wk_e (wk_u (wk_u (wk_u (wk_u (wk_u (wk_u wk_n))))))))) Wk.nil)) (fun s538 => (ss_retV (r := s538) 1 rfl rfl (pv 1))))) Wk.nil) (by simp only [mbk, mba, sqk, sqa, c_mark_ends]))
theorem ok__law_is_integer (T : Tx K mg ca fa fd) : FnOk P w K mg base (L2N.CX P w) 1 (fa 14) (fd 14) ["actual"] (spE K ca (xC eI xN) eB fun a => f__law_is_integer a.1) :=
  fn_E (d := .no) (fn_ok (k := 0) (n := 0) (Nx := fun _ _ => []) (L := fun _ (_ : Empty) => []) (R := fun r : Bool => .fr (eB r)) (encA := (xC eI xN)) (code := fun a => c__law_is_integer a.1) T.F__law_is_integer sc__law_is_integer (fun _ => rfl) rfl fun cdv A outer s G H E a C => by
    obtain ⟨actual, u0⟩ := a
    show DSs _ _ [.fr (eI actual)] _ _ _ _ _
    exact ss_eq (ss_ret (enc := eB) (g := fun z => z) (e_andP (e_isi T.n_isinstance (.ty "int") (ty_int (r := true) (by decide +kernel)) (pa_cons (b_e (e_var (z := actual) (enc := eI) 0 rfl (pv 0))) (pa_cons (pe_bltn (v := .ty "int") rfl T.n_int boot_int rfl) pa_nil))) (e_one (e_not (e_isi T.n_isinstance (.ty "bool") (ty_int (r := false) (by decide +kernel)) (pa_cons (b_e (e_var (z := actual) (enc := eI) 0 rfl (pv 0))) (pa_cons (pe_bltn (v := .ty "bool") rfl T.n_bool boot_bool rfl) pa_nil))))) rfl) Wk.nil (fun _ => rfl)) (by simp only [mbk, mba, sqk, sqa, c__law_is_integer])) (.inl rfl)
theorem ok__law_numbers (T : Tx K mg ca fa fd) : FnOk P w K mg base (L2N.CX P w) 2 (fa 15) (fd 15) ["actual", "due", "as_tuple"] (spE K ca (xC (eT eI) (xL eI (xC eB xN))) eB fun a => f__law_numbers a.1 a.2.1 a.2.2.1) :=
  fn_E (d := .no) (fn_ok (k := 1) (n := 1) (Nx := fun _ _ => []) (L := fun _ (_ : Empty) => []) (R := fun r : Bool => .fr (eB r)) (encA := (xC (eT eI) (xL eI (xC eB xN)))) (code := fun a => c__law_numbers a.1 a.2.1 a.2.2.1) T.F__law_numbers sc__law_numbers (fun _ => rfl) rfl fun cdv A outer s G H E a C => by
    obtain ⟨actual, due, as_tuple, u0⟩ := a
    show DSs _ _ [.fr ((eT eI) actual), .ln (List.map eI due), .fr (eB as_tuple), .un] _ _ _ _ _
    exact ss_eq (ss_ifX (t_w (w_orP (t_w (w_andP (t_val (e_var (z := as_tuple) (enc := eB) 2 rfl (pv 2))) (w_and1 (t_not (t_val (e_isi T.n_isinstance (.ty "tuple") (ty_tup (r := true) (by decide +kernel)) (pa_cons (b_e (e_var (z := actual) (enc := (eT eI)) 0 rfl (pv 0))) (pa_cons (pe_bltn (v := .ty "tuple") rfl T.n_tuple boot_tuple rfl) pa_nil)))))) rfl)) (w_or1 (t_w (w_andP (t_not (t_val (e_var (z := as_tuple) (enc := eB) 2 rfl (pv 2)))) (w_and1 (t_not (t_val (e_isi T.n_isinstance (.ty "list") (ty_tup (r := false) (by decide +kernel)) (pa_cons (b_e (e_var (z := actual) (enc := (eT eI)) 0 rfl (pv 0))) (pa_cons (pe_bltn (v := .ty "list") rfl T.n_list boot_list rfl) pa_nil)))))) rfl))) rfl)) (ss_ret (enc := eB) (g := fun z => z) e_bl Wk.nil (fun _ => rfl)) (nn_mb fun _ => nn_rt) (ss_ifX (t_cmp c_ne (b_e (e_lenT (enc := eI) T.n_len (pa_cons (e_var (z := actual) (enc := (eT eI)) 0 rfl (pv 0)) pa_nil))) (b_e (e_lenL (enc := eI) T.n_len (pa_cons (l_var (z := due) (enc := eI) 1 rfl (pv 1)) pa_nil))) rfl) (ss_ret (enc := eB) (g := fun z => z) e_bl Wk.nil (fun _ => rfl)) (nn_mb fun _ => nn_rt) (ss_for (L := fun (s554 : Unit) => [.fr ((eT eI) actual), .ln (List.map eI due), .fr (eB as_tuple), .un]) () C (i_range1 rfl T.n_range (pa_cons (e_lenL (enc := eI) T.n_len (pa_cons (l_var (z := due) (enc := eI) 1 rfl (pv 1)) pa_nil)) pa_nil)) (g_name (enc := eI) (i := 3) C.nd) (wk_e (wk_e (wk_e (wk_u wk_n)))) Wk.nil (fun k555 s554 => (ss_ifX (t_w (w_or (t_not (t_val (e_call C (by decide) (ok__law_is_integer T) T.g__law_is_integer T.k__law_is_integer T.b__law_is_integer (x_cons (e_ixT (enc := eI) (e_var (z := actual) (enc := (eT eI)) 0 rfl (pv 0)) (e_var (z := k555) (enc := eI) 3 rfl (pv 3))) x_nil)))) (w_or1 (t_cmp c_ne (b_e (e_ixT (enc := eI) (e_var (z := actual) (enc := (eT eI)) 0 rfl (pv 0)) (e_var (z := k555) (enc := eI) 3 rfl (pv 3)))) (b_e (e_ixL (enc := eI) (l_var (z := due) (enc := eI) 1 rfl (pv 1)) (e_var (z := k555) (enc := eI) 3 rfl (pv 3)))) rfl)))) (ss_ret (enc := eB) (g := fun z => z) e_bl Wk.nil (fun _ => rfl)) (nn_mb fun _ => nn_rt) (ss_nil (b := ()) (wk_e (wk_e (wk_e (wk_u wk_n))))) Wk.nil)) (fun s562 => (ss_ret (enc := eB) (g := fun z => z) e_bl Wk.nil (fun _ => rfl)))) Wk.nil) Wk.nil) (by simp only [mbk, mba, sqk, sqa, c__law_numbers])) (.inl rfl)
theorem ok__law_ends (T : Tx K mg ca fa fd) : FnOk P w K mg base (L2N.CX P w) 3 (fa 16) (fd 16) ["told"] (spE K ca (xL (eT eI) xN) (eO (eL (eL eI))) fun a => f__law_ends a.1) :=
  fn_E (d := (.ok none)) (fn_ok (k := 2) (n := 2) (Nx := fun _ _ => []) (L := fun _ (_ : Empty) => []) (R := fun r : (Option (List (List Int))) => .fr ((eO (eL (eL eI))) r)) (encA := (xL (eT eI) xN)) (code := fun a => c__law_ends a.1) T.F__law_ends sc__law_ends (fun _ => rfl) rfl fun cdv A outer s G H E a C => by
    obtain ⟨told, u0⟩ := a
    show DSs _ _ [.ln (List.map (eT eI) told), .un, .un] _ _ _ _ _
    exact ss_eq (ss_ifX (t_not (t_val (e_isi T.n_isinstance (.ty "list") (ty_lst (r := true) (by decide +kernel)) (pa_cons (l_var (z := told) (enc := (eT eI)) 0 rfl (pv 0)) (pa_cons (pe_bltn (v := .ty "list") rfl T.n_list boot_list rfl) pa_nil))))) (ss_ret (enc := (eO (eL (eL eI)))) (g := fun z => z) (e_none (enc := (eL (eL eI))) e_non) Wk.nil (fun _ => rfl)) (nn_mb fun _ => nn_rt) (ss_asgO (i := 1) C.nd (o_lst (enc := (eL eI)) (g := fun _ => []) a_nil (fun _ => rfl) (fun _ => small_line (Nat.zero_le _))) (fun ends578 => (ss_for (L := fun (s579 : List (List Int)) => [.ln (List.map (eT eI) told), .ow (List.map (eL eI) s579), .un]) ends578 C (i_ln (enc := (eT eI)) (z := told) 0 rfl (pv 0)) (g_name (enc := (eT eI)) (i := 2) C.nd) (wk_e (wk_e (wk_u wk_n))) Wk.nil (fun end580 s579 => (ss_ifX (t_w (w_or (t_not (t_val (e_isi T.n_isinstance (.ty "tuple") (ty_tup (r := true) (by decide +kernel)) (pa_cons (b_e (e_var (z := end580) (enc := (eT eI)) 2 rfl (pv 2))) (pa_cons (pe_bltn (v := .ty "tuple") rfl T.n_tuple boot_tuple rfl) pa_nil))))) (w_or (t_cmp c_eq (b_e (e_lenT (enc := eI) T.n_len (pa_cons (e_var (z := end580) (enc := (eT eI)) 2 rfl (pv 2)) pa_nil))) (b_e e_int) rfl) (w_or1 (t_not (t_val (e_call C (by decide) (ok__law_numbers T) T.g__law_numbers T.k__law_numbers T.b__law_numbers (x_cons (e_var (z := end580) (enc := (eT eI)) 2 rfl (pv 2)) (x_consL (b_e (e_o (o_listT (enc := eI) T.n_list (pa_cons (e_var (z := end580) (enc := (eT eI)) 2 rfl (pv 2)) pa_nil)))) (x_cons e_bl x_nil)))))))))) (ss_ret (enc := (eO (eL (eL eI)))) (g := fun z => z) (e_none (enc := (eL (eL eI))) e_non) Wk.nil (fun _ => rfl)) (nn_mb fun _ => nn_rt) (ss_ifX (t_w (w_and (t_cmp (c_neD (pd_lst (pd_lst pd_int)) (by decide) C.room.units) (b_var (z := s579) (enc := (eL eI)) 1 rfl (pv 1)) (b_e (e_o (o_lst (enc := (eL eI)) (g := fun _ => []) a_nil (fun _ => rfl) (fun _ => small_line (Nat.zero_le _))))) rfl) (w_and1 (t_cmp (c_leT (by have := C.room.units; omega)) (b_e (e_pl2 (e_tupG (enc := (eP2 eI eI)) (g := fun z : Int × Int × Unit => (z.1, z.2.1)) (a_cons (e_lenT (enc := eI) T.n_len (pa_cons (e_var (z := end580) (enc := (eT eI)) 2 rfl (pv 2)) pa_nil)) (a_cons (e_ixT (enc := eI) (e_var (z := end580) (enc := (eT eI)) 2 rfl (pv 2)) e_int) a_nil)) (fun _ => rfl) (fun _ => small_line (by show 2 ≤ 1000; decide))))) (b_e (e_pl2 (e_tupG (enc := (eP2 eI eI)) (g := fun z : Int × Int × Unit => (z.1, z.2.1)) (a_cons (e_lenL (enc := eI) T.n_len (pa_cons (b_e (e_ixL (enc := (eL eI)) (b_var (z := s579) (enc := (eL eI)) 1 rfl (pv 1)) (e_neg e_int))) pa_nil)) (a_cons (e_ixL (enc := eI) (b_e (e_ixL (enc := (eL eI)) (b_var (z := s579) (enc := (eL eI)) 1 rfl (pv 1)) (e_neg e_int))) e_int) a_nil)) (fun _ => rfl) (fun _ => small_line (by show 2 ≤ 1000; decide))))) rfl)))) (ss_ret (enc := (eO (eL (eL eI)))) (g := fun z => z) (e_none (enc := (eL (eL eI))) e_non) Wk.nil (fun _ => rfl)) (nn_mb fun _ => nn_rt) (ss_app (enc := (eL eI)) (xs := s579) 1 rfl (pv 1) (e_o (o_listT (enc := eI) T.n_list (pa_cons (e_var (z := end580) (enc := (eT eI)) 2 rfl (pv 2)) pa_nil))) (fun ends591 => (ss_nil (b := ends591) (wk_e (wk_e (wk_u wk_n))))) Wk.nil (pe_bm PySem.F.plainAttrs_list PySem.F.slot_list_append PySem.F.type_list_append mt_append (pv 1) (pa_cons (e_o (o_listT (enc := eI) T.n_list (pa_cons (e_var (z := end580) (enc := (eT eI)) 2 rfl (pv 2)) pa_nil))) pa_nil))) Wk.nil) Wk.nil)) (fun s594 => (ss_frz 1 rfl (ss_ret (enc := (eO (eL (eL eI)))) (g := fun z => z) (e_some (e_var (z := s594) (enc := (eL (eL eI))) 1 rfl (pv 1))) Wk.nil (fun _ => rfl)))))) Wk.nil) Wk.nil) (by simp only [mbk, mba, sqk, sqa, c__law_ends])) (.inr ⟨_, rfl, rfl⟩)
theorem ok_check_end_v1 (T : Tx K mg ca fa fd) : FnOk P w K mg base (L2N.CX P w) 4 (fa 10) (fd 10) ["marks", "end"] (spE K ca (xC eC_Marks (xL eI xN)) (eT eI) fun a => f_check_end_v1 a.1 a.2.1) :=
  fn_E (d := .no) (fn_ok (k := 3) (n := 1) (Nx := fun _ _ => []) (L := fun _ (_ : Empty) => []) (R := fun r : (List Int) => .fr ((eT eI) r)) (encA := (xC eC_Marks (xL eI xN))) (code := fun a => c_check_end_v1 a.1 a.2.1) T.F_check_end sc_check_end (fun _ => rfl) rfl fun cdv A outer s G H E a C => by
    obtain ⟨marks, end_, u0⟩ := a
    show DSs _ _ [.fr (eC_Marks marks), .ln (List.map eI end_), .un] _ _ _ _ _
    exact ss_eq (ss_asg (enc := (eT eI)) (i := 2) C.nd (e_tuple (enc := eI) T.n_tuple (pa_cons (l_var (z := end_) (enc := eI) 1 rfl (pv 1)) pa_nil)) (fun cut606 => (ss_ifX (t_not (t_val (e_call C (by decide) (ok_is_spaced T) T.g_is_spaced T.k_is_spaced T.b_is_spaced (x_cons (e_var (z := marks) (enc := eC_Marks) 0 rfl (pv 0)) (x_cons (e_var (z := cut606) (enc := (eT eI)) 2 rfl (pv 2)) x_nil))))) (ss_raise1 (enc := (eT eI)) C (by decide) T.x_BadCut (okI_BadCut T) T.xb_BadCut (pa_cons (e_var (z := cut606) (enc := (eT eI)) 2 rfl (pv 2)) pa_nil) Wk.nil) (nn_mb fun _ => nn_er) (ss_ret (enc := (eT eI)) (g := fun z => z) (e_var (z := cut606) (enc := (eT eI)) 2 rfl (pv 2)) Wk.nil (fun _ => rfl)) Wk.nil)) Wk.nil) (by simp only [mbk, mba, sqk, sqa, c_check_end_v1])) (.inl rfl)
theorem ok_mark_fault_v1 (T : Tx K mg ca fa fd) : FnOk P w K mg base (L2N.CX P w) 5 (fa 12) (fd 12) ["marks", "end"] (spE K ca (xC eC_Marks (xL eI xN)) (eO (eP3 eS eI eI)) fun a => f_mark_fault_v1 a.1 a.2.1) :=
  fn_E (d := (.ok none)) (fn_ok (k := 4) (n := 4) (Nx := fun _ _ => []) (L := fun _ (_ : Empty) => []) (R := fun r : (Option (PySem.Str × Int × Int)) => .fr ((eO (eP3 eS eI eI)) r)) (encA := (xC eC_Marks (xL eI xN))) (code := fun a => c_mark_fault_v1 a.1 a.2.1) T.F_mark_fault sc_mark_fault (fun _ => rfl) rfl fun cdv A outer s G H E a C => by
    obtain ⟨marks, end_, u0⟩ := a
    show DSs _ _ [.fr (eC_Marks marks), .ln (List.map eI end_), .un, .un, .un, .un] _ _ _ _ _
    exact ss_eq (ss_for (L := fun (s615 : Unit) => [.fr (eC_Marks marks), .ln (List.map eI end_), .un, .un, .un, .un]) () C (i_list (enc := (eP4 eI eI eI eI)) (e_o (o_call C (by decide) (ok_inner_marks T) T.g_inner_marks T.k_inner_marks T.b_inner_marks (x_cons (e_var (z := marks) (enc := eC_Marks) 0 rfl (pv 0)) (x_cons (e_call C (by decide) (ok_check_end_v1 T) T.g_check_end T.k_check_end T.b_check_end (x_cons (e_var (z := marks) (enc := eC_Marks) 0 rfl (pv 0)) (x_consL (l_var (z := end_) (enc := eI) 1 rfl (pv 1)) x_nil))) x_nil))))) (g_tup (enc := (eP4 eI eI eI eI)) C.calm (gs_cons (d := fun z : (Int × Int × Int × Int) => eI z.1) (i := 2) C.nd (gs_cons (d := fun z : (Int × Int × Int × Int) => eI z.2.1) (i := 3) C.nd (gs_cons (d := fun z : (Int × Int × Int × Int) => eI z.2.2.1) (i := 4) C.nd (gs_cons (d := fun z : (Int × Int × Int × Int) => eI z.2.2.2) (i := 5) C.nd (gs_nil (β := (Int × Int × Int × Int))))))) (fun _ => rfl) (fun _ => rfl)) (wk_e (wk_e (wk_u (wk_u (wk_u (wk_u wk_n)))))) Wk.nil (fun x616 s615 => (ss_ifX (t_cmp c_ge (b_e (e_var (z := x616.2.2.1) (enc := eI) 4 rfl (pv 4))) (b_e (e_var (z := x616.2.2.2) (enc := eI) 5 rfl (pv 5))) rfl) (ss_ret (enc := (eO (eP3 eS eI eI))) (g := fun z => z) (e_conv (enb := (eO (eP3 eS eI eI))) (fun z : (PySem.Str × Int × Int) => (some z)) (e_tupG (enc := (eP3 eS eI eI)) (g := fun z : PySem.Str × Int × Int × Unit => (z.1, z.2.1, z.2.2.1)) (a_cons e_str (a_cons (e_var (z := x616.1) (enc := eI) 2 rfl (pv 2)) (a_cons (e_var (z := x616.2.1) (enc := eI) 3 rfl (pv 3)) a_nil))) (fun _ => rfl) (fun _ => small_line (by show 3 ≤ 1000; decide))) (fun _ => rfl)) Wk.nil (fun _ => rfl)) (nn_mb fun _ => nn_rt) (ss_nil (b := ()) (wk_e (wk_e (wk_u (wk_u (wk_u (wk_u wk_n))))))) Wk.nil)) (fun s617 => (ss_ret (enc := (eO (eP3 eS eI eI))) (g := fun z => z) (e_none (enc := (eP3 eS eI eI)) e_non) Wk.nil (fun _ => rfl)))) (by simp only [mbk, mba, sqk, sqa, c_mark_fault_v1])) (.inr ⟨_, rfl, rfl⟩)
theorem ok_wipe_plan (T : Tx K mg ca fa fd) : FnOk P w K mg base (L2N.CX P w) 6 (fa 17) (fd 17) ["marks", "end"] (spO K ca (xC eC_Marks (xL eI xN)) eI fun a => f_wipe_plan a.1 a.2.1) :=
  fn_O (fn_ok (k := 5) (n := 5) (Nx := fun _ _ => []) (L := fun _ (_ : Empty) => []) (R := fun r : (List Int) => .ow (r.map eI)) (encA := (xC eC_Marks (xL eI xN))) (code := fun a => c_wipe_plan a.1 a.2.1) T.F_wipe_plan sc_wipe_plan (fun _ => rfl) rfl fun cdv A outer s G H E a C => by
    obtain ⟨marks, end_, u0⟩ := a
    show DSs _ _ [.fr (eC_Marks marks), .ln (List.map eI end_), .un, .un, .un, .un, .un] _ _ _ _ _
    exact ss_eq (ss_asg (enc := (eO (eP3 eS eI eI))) (i := 2) C.nd (e_call C (by decide) (ok_mark_fault_v1 T) T.g_mark_fault T.k_mark_fault T.b_mark_fault (x_cons (e_var (z := marks) (enc := eC_Marks) 0 rfl (pv 0)) (x_consL (l_var (z := end_) (enc := eI) 1 rfl (pv 1)) x_nil))) (fun reason623 => (ss_ifX (t_cmp (c_notN (fun _ h => by cases h)) (b_e (e_var (z := reason623) (enc := (eO (eP3 eS eI eI))) 2 rfl (pv 2))) (b_e e_non) rfl) (ss_raise1 (enc := (eO (eP3 eS eI eI))) C (by decide) T.x_NoEnd (okI_NoEnd T) T.xb_NoEnd (pa_cons (e_var (z := reason623) (enc := (eO (eP3 eS eI eI))) 2 rfl (pv 2)) pa_nil) Wk.nil) (nn_mb fun _ => nn_er) (ss_retO (enc := eI) (g := fun z => z) (o_lc0 (ow := [("head", 3), ("place", 4), ("gap", 5), ("way", 6)]) (enb := eI) C (i_list (enc := (eP4 eI eI eI eI)) (e_o (o_call C (by decide) (ok_inner_marks T) T.g_inner_marks T.k_inner_marks T.b_inner_marks (x_cons (e_var (z := marks) (enc := eC_Marks) 0 rfl (pv 0)) (x_cons (e_tuple (enc := eI) T.n_tuple (pa_cons (l_var (z := end_) (enc := eI) 1 rfl (pv 1)) pa_nil)) x_nil))))) (blkOk_by (N := ["marks", "end", "reason", "head", "place", "gap", "way"]) (sc := defScope s_wipe_plan) (by decide +kernel)) (fun _ _ _ _ _ => pg_tupB (N' := 4) C.calm (pgs_cons (pg_name (i := 3) sc_wipe_plan.nd rfl (Or.inl rfl)) (pgs_cons (pg_name (i := 4) sc_wipe_plan.nd rfl (Or.inl rfl)) (pgs_cons (pg_name (i := 5) sc_wipe_plan.nd rfl (Or.inl rfl)) (pgs_cons (pg_name (i := 6) sc_wipe_plan.nd rfl (Or.inl rfl)) pgs_nil))))) (gs_tupC (enc := (eP4 eI eI eI eI)) (gsc_cons (d := fun z : (Int × Int × Int × Int) => eI z.1) (i := 3) (by decide) (gsc_cons (d := fun z : (Int × Int × Int × Int) => eI z.2.1) (i := 4) (by decide) (gsc_cons (d := fun z : (Int × Int × Int × Int) => eI z.2.2.1) (i := 5) (by decide) (gsc_cons (d := fun z : (Int × Int × Int × Int) => eI z.2.2.2) (i := 6) (by decide) (gsc_nil (β := (Int × Int × Int × Int))))))) (fun _ => rfl) (fun _ => rfl)) (fun _ _ _ _ _ C625 x624 => (e_var (z := x624.1) (enc := eI) 3 rfl (pv 3)))) Wk.nil (fun _ => rfl)) Wk.nil)) Wk.nil) (by simp only [mbk, mba, sqk, sqa, c_wipe_plan]))
theorem ok__law_plan (T : Tx K mg ca fa fd) : FnOk P w K mg base (L2N.CX P w) 7 (fa 18) (fd 18) ["marks", "end"] (spE K ca (xC eC_Marks (xL eI xN)) (eO (eL eI)) fun a => f__law_plan a.1 a.2.1) :=
  fn_E (d := (.ok none)) (fn_ok (k := 6) (n := 0) (Nx := fun _ _ => []) (L := fun _ (_ : Empty) => []) (R := fun r : (Option (List Int)) => .fr ((eO (eL eI)) r)) (encA := (xC eC_Marks (xL eI xN))) (code := fun a => c__law_plan a.1 a.2.1) T.F__law_plan sc__law_plan (fun _ => rfl) rfl fun cdv A outer s G H E a C => by
    obtain ⟨marks, end_, u0⟩ := a
    show DSs _ _ [.fr (eC_Marks marks), .ln (List.map eI end_)] _ _ _ _ _
    exact ss_eq (ss_tryC (ss_tryN (cs := []) (N := fun _ : Unit => [.fr (eC_Marks marks), .ln (List.map eI end_)]) (S1 := [.fr (eC_Marks marks), .ln (List.map eI end_)]) C rfl rfl rfl T.gB_RetinueError (fun c h => nomatch h) (by decide) (fun W pn xe Ct => (ss_ret (enc := (eO (eL eI))) (g := fun z => z) (e_some (e_o (o_call Ct (by decide) (ok_wipe_plan T) T.g_wipe_plan T.k_wipe_plan T.b_wipe_plan (x_cons (e_var (z := marks) (enc := eC_Marks) 0 rfl (pv 0)) (x_consL (l_var (z := end_) (enc := eI) 1 rfl (pv 1)) x_nil))))) (wk_e (wk_e wk_n)) (fun _ => rfl))) (fun a oe pn Ch => (ss_ret (enc := (eO (eL eI))) (g := fun z => z) (e_none (enc := (eL eI)) e_non) Wk.nil (fun _ => rfl)))) (fun _ => (ss_nil (b := ()) Wk.nil))) (by simp only [mbk, mba, sqk, sqa, c__law_plan])) (.inr ⟨_, rfl, rfl⟩)
theorem ok__law_wipers (T : Tx K mg ca fa fd) : FnOk P w K mg base (L2N.CX P w) 2 (fa 19) (fd 19) ["places", "size"] (spO K ca (xL eI (xC eI xN)) eI fun a => f__law_wipers a.1 a.2.1) :=
  fn_O (fn_ok (k := 1) (n := 2) (Nx := fun _ _ => []) (L := fun _ (_ : Empty) => []) (R := fun r : (List Int) => .ow (r.map eI)) (encA := (xL eI (xC eI xN))) (code := fun a => c__law_wipers a.1 a.2.1) T.F__law_wipers sc__law_wipers (fun _ => rfl) rfl fun cdv A outer s G H E a C => by
    obtain ⟨places, size, u0⟩ := a
    show DSs _ _ [.ln (List.map eI places), .fr (eI size), .un, .un] _ _ _ _ _
    exact ss_eq (ss_asgO (i := 2) C.nd (o_call C (by decide) (ok__law_gaps T) T.g__law_gaps T.k__law_gaps T.b__law_gaps (x_consL (l_var (z := places) (enc := eI) 0 rfl (pv 0)) (x_cons (e_var (z := size) (enc := eI) 1 rfl (pv 1)) x_nil))) (fun gaps648 => (ss_retO (enc := eI) (g := fun z => z) (o_lc1 (ow := [("k", 3)]) (enb := eI) C (i_range1 rfl T.n_range (pa_cons (e_lenL (enc := eI) T.n_len (pa_cons (b_var (z := gaps648) (enc := eI) 2 rfl (pv 2)) pa_nil)) pa_nil)) (blkOk_by (N := ["places", "size", "gaps", "k"]) (sc := defScope s__law_wipers) (by decide +kernel)) (fun _ _ _ _ _ => pg_name (i := 3) sc__law_wipers.nd rfl (Or.inl rfl)) (gs_name (enc := eI) (i := 3) (by decide)) (fun _ _ _ _ _ C650 k649 => (t_cmp c_gt (b_e (e_ixL (enc := eI) (b_var (z := gaps648) (enc := eI) 2 rfl (pv 2)) (e_var (z := k649) (enc := eI) 3 rfl (pv 3)))) (b_e (e_ixL (enc := eI) (b_var (z := gaps648) (enc := eI) 2 rfl (pv 2)) (e_mod (e_intI T.n_int (pa_cons (e_add (e_var (z := k649) (enc := eI) 3 rfl (pv 3)) e_int) pa_nil)) (e_lenL (enc := eI) T.n_len (pa_cons (b_var (z := gaps648) (enc := eI) 2 rfl (pv 2)) pa_nil))))) rfl)) (fun _ _ _ _ _ C650 k649 => (e_ixL (enc := eI) (l_var (z := places) (enc := eI) 0 rfl (pv 0)) (e_var (z := k649) (enc := eI) 3 rfl (pv 3))))) Wk.nil (fun _ => rfl))) Wk.nil) (by simp only [mbk, mba, sqk, sqa, c__law_wipers]))
theorem ok__law_left (T : Tx K mg ca fa fd) : FnOk P w K mg base (L2N.CX P w) 1 (fa 20) (fd 20) ["places", "place"] (spO K ca (xL eI (xC eI xN)) eI fun a => f__law_left a.1 a.2.1) :=
  fn_O (fn_ok (k := 0) (n := 1) (Nx := fun _ _ => []) (L := fun _ (_ : Empty) => []) (R := fun r : (List Int) => .ow (r.map eI)) (encA := (xL eI (xC eI xN))) (code := fun a => c__law_left a.1 a.2.1) T.F__law_left sc__law_left (fun _ => rfl) rfl fun cdv A outer s G H E a C => by
    obtain ⟨places, place, u0⟩ := a
    show DSs _ _ [.ln (List.map eI places), .fr (eI place), .un] _ _ _ _ _
    exact ss_eq (ss_asg (enc := eI) (i := 2) C.nd (e_mod (e_intI T.n_int (pa_cons (e_add (e_index (pe_bm PySem.F.plainAttrs_list PySem.F.slot_list_index PySem.F.type_list_index mt_index (l_var (z := places) (enc := eI) 0 rfl (pv 0)) (pa_cons (e_var (z := place) (enc := eI) 1 rfl (pv 1)) pa_nil))) e_int) pa_nil)) (e_lenL (enc := eI) T.n_len (pa_cons (l_var (z := places) (enc := eI) 0 rfl (pv 0)) pa_nil))) (fun at663 => (ss_retO (enc := eI) (g := fun z => z) (o_cat (enc := eI) (b_e (e_o (o_cutL (enc := eI) (l_var (z := places) (enc := eI) 0 rfl (pv 0)) p_none (p_some (e_var (z := at663) (enc := eI) 2 rfl (pv 2)))))) (b_e (e_o (o_cutL (enc := eI) (l_var (z := places) (enc := eI) 0 rfl (pv 0)) (p_some (e_add (e_var (z := at663) (enc := eI) 2 rfl (pv 2)) e_int)) p_none)))) Wk.nil (fun _ => rfl))) Wk.nil) (by simp only [mbk, mba, sqk, sqa, c__law_left]))
theorem ok__law_end_left (T : Tx K mg ca fa fd) : FnOk P w K mg base (L2N.CX P w) 8 (fa 21) (fd 21) ["marks", "size", "places", "end"] (spE K ca (xC eC_Marks (xC eI (xC (eL eI) (xL eI xN)))) eB fun a => f__law_end_left a.1 a.2.1 a.2.2.1 a.2.2.2.1) :=
  fn_E (d := .no) (fn_ok (k := 7) (n := 3) (Nx := fun _ _ => []) (L := fun _ (_ : Empty) => []) (R := fun r : Bool => .fr (eB r)) (encA := (xC eC_Marks (xC eI (xC (eL eI) (xL eI xN))))) (code := fun a => c__law_end_left a.1 a.2.1 a.2.2.1 a.2.2.2.1) T.F__law_end_left sc__law_end_left (fun _ => rfl) rfl fun cdv A outer s G H E a C => by
    obtain ⟨marks, size, places, end_, u0⟩ := a
    show DSs _ _ [.fr (eC_Marks marks), .fr (eI size), .fr ((eL eI) places), .ln (List.map eI end_), .un, .un, .un] _ _ _ _ _
    exact ss_eq (ss_asg (enc := (eO (eL eI))) (i := 4) C.nd (e_call C (by decide) (ok__law_plan T) T.g__law_plan T.k__law_plan T.b__law_plan (x_cons (e_var (z := marks) (enc := eC_Marks) 0 rfl (pv 0)) (x_consL (b_e (e_o (o_list (enc := eI) T.n_list (pa_cons (l_var (z := end_) (enc := eI) 3 rfl (pv 3)) pa_nil)))) x_nil))) (fun plan671 => (ss_ifX (t_w (w_or (t_not (t_val (e_isi T.n_isinstance (.ty "list") (ty_opt (T := "list") (r0 := false) rfl (ty_lst (r := true) (by decide +kernel)) (by decide +kernel)) (pa_cons (b_e (e_var (z := plan671) (enc := (eO (eL eI))) 4 rfl (pv 4))) (pa_cons (pe_bltn (v := .ty "list") rfl T.n_list boot_list rfl) pa_nil))))) (w_or1 (t_cmp c_ne (b_e (e_lenL (enc := eI) T.n_len (pa_cons (b_e (e_unO (e_var (z := plan671) (enc := (eO (eL eI))) 4 rfl (pv 4)))) pa_nil))) (b_e (e_sub (e_lenL (enc := eI) T.n_len (pa_cons (b_e (e_var (z := places) (enc := (eL eI)) 2 rfl (pv 2))) pa_nil)) (e_lenL (enc := eI) T.n_len (pa_cons (l_var (z := end_) (enc := eI) 3 rfl (pv 3)) pa_nil)))) rfl)))) (ss_ret (enc := eB) (g := fun z => z) e_bl Wk.nil (fun _ => rfl)) (nn_mb fun _ => nn_rt) (ss_asg (enc := (eL eI)) (i := 5) C.nd (e_var (z := places) (enc := (eL eI)) 2 rfl (pv 2)) (fun left674 => (ss_for (L := fun (s675 : (List Int)) => [.fr (eC_Marks marks), .fr (eI size), .fr ((eL eI) places), .ln (List.map eI end_), .fr ((eO (eL eI)) plan671), .fr ((eL eI) s675), .un]) left674 C (i_list (enc := eI) (e_unO (e_var (z := plan671) (enc := (eO (eL eI))) 4 rfl (pv 4)))) (g_name (enc := eI) (i := 6) C.nd) (wk_e (wk_e (wk_e (wk_e (wk_e (wk_e (wk_u wk_n))))))) Wk.nil (fun place676 s675 => (ss_ifX (t_w (w_or (t_not (t_val (e_call C (by decide) (ok__law_is_integer T) T.g__law_is_integer T.k__law_is_integer T.b__law_is_integer (x_cons (e_var (z := place676) (enc := eI) 6 rfl (pv 6)) x_nil)))) (w_or1 (t_cmp c_notIn (b_e (e_var (z := place676) (enc := eI) 6 rfl (pv 6))) (b_e (e_o (o_call C (by decide) (ok__law_wipers T) T.g__law_wipers T.k__law_wipers T.b__law_wipers (x_consL (b_e (e_var (z := s675) (enc := (eL eI)) 5 rfl (pv 5))) (x_cons (e_var (z := size) (enc := eI) 1 rfl (pv 1)) x_nil))))) rfl)))) (ss_ret (enc := eB) (g := fun z => z) e_bl Wk.nil (fun _ => rfl)) (nn_mb fun _ => nn_rt) (ss_asg (enc := (eL eI)) (i := 5) C.nd (e_o (o_call C (by decide) (ok__law_left T) T.g__law_left T.k__law_left T.b__law_left (x_consL (b_e (e_var (z := s675) (enc := (eL eI)) 5 rfl (pv 5))) (x_cons (e_var (z := place676) (enc := eI) 6 rfl (pv 6)) x_nil)))) (fun left680 => (ss_nil (b := left680) (wk_e (wk_e (wk_e (wk_e (wk_e (wk_e (wk_u wk_n))))))))) Wk.nil) Wk.nil)) (fun s682 => (ss_ret (enc := eB) (g := fun z => z) (e_and (e_cmp (c_eqD (pd_lst pd_int) (by decide) C.room.units) (b_e (e_var (z := s682) (enc := (eL eI)) 5 rfl (pv 5))) (b_e (e_o (o_list (enc := eI) T.n_list (pa_cons (l_var (z := end_) (enc := eI) 3 rfl (pv 3)) pa_nil)))) rfl) (e_one (e_cmp (c_eqD (pd_lst pd_int) (by decide) C.room.units) (b_e (e_o (o_call C (by decide) (ok__law_wipers T) T.g__law_wipers T.k__law_wipers T.b__law_wipers (x_consL (b_e (e_var (z := s682) (enc := (eL eI)) 5 rfl (pv 5))) (x_cons (e_var (z := size) (enc := eI) 1 rfl (pv 1)) x_nil))))) (b_e (e_o (o_lst (enc := eI) (g := fun _ => []) a_nil (fun _ => rfl) (fun _ => small_line (Nat.zero_le _))))) rfl))) Wk.nil (fun _ => rfl))))) Wk.nil) Wk.nil)) Wk.nil) (by simp only [mbk, mba, sqk, sqa, c__law_end_left])) (.inl rfl)
theorem ok__law_play (T : Tx K mg ca fa fd) : FnOk P w K mg base (L2N.CX P w) 3 (fa 22) (fd 22) ["cell", "size", "places"] (spE K ca (xC eI (xC eI (xC (eL eI) xN))) (eL eI) fun a => f__law_play a.1 a.2.1 a.2.2.1) :=
  fn_E (d := .no) (fn_ok (k := 2) (n := 4) (Nx := fun _ _ => []) (L := fun _ (_ : Empty) => []) (R := fun r : (List Int) => .fr ((eL eI) r)) (encA := (xC eI (xC eI (xC (eL eI) xN)))) (code := fun a => c__law_play a.1 a.2.1 a.2.2.1) T.F__law_play sc__law_play (fun _ => rfl) rfl fun cdv A outer s G H E a C => by
    obtain ⟨cell, size, places, u0⟩ := a
    show DSs _ _ [.fr (eI cell), .fr (eI size), .fr ((eL eI) places), .un, .un, .un, .un] _ _ _ _ _
    exact ss_eq (ss_asgO (i := 3) C.nd (o_call C (by decide) (ok__law_draws T) T.g__law_draws T.k__law_draws T.b__law_draws (x_cons (e_var (z := cell) (enc := eI) 0 rfl (pv 0)) (x_consL (b_e (e_o (o_rep (enc := eI) (b_e (e_o (o_lst (enc := eI) (g := fun z : Int × Unit => [z.1]) (a_cons e_int a_nil) (fun _ => rfl) (fun _ => small_line (by show 1 ≤ 1000; decide))))) (e_lenL (enc := eI) T.n_len (pa_cons (b_e (e_var (z := places) (enc := (eL eI)) 2 rfl (pv 2))) pa_nil))))) x_nil))) (fun draws709 => (ss_asg (enc := (eL eI)) (i := 4) C.nd (e_var (z := places) (enc := (eL eI)) 2 rfl (pv 2)) (fun left710 => (ss_for (L := fun (s711 : (List Int)) => [.fr (eI cell), .fr (eI size), .fr ((eL eI) places), .ow (List.map eI draws709), .fr ((eL eI) s711), .un, .un]) left710 C (i_range1 rfl T.n_range (pa_cons (e_lenL (enc := eI) T.n_len (pa_cons (b_e (e_var (z := places) (enc := (eL eI)) 2 rfl (pv 2))) pa_nil)) pa_nil)) (g_name (enc := eI) (i := 5) C.nd) (wk_e (wk_e (wk_e (wk_e (wk_e (wk_u (wk_u wk_n))))))) Wk.nil (fun step712 s711 => (ss_asgO (i := 6) C.nd (o_call C (by decide) (ok__law_wipers T) T.g__law_wipers T.k__law_wipers T.b__law_wipers (x_consL (b_e (e_var (z := s711) (enc := (eL eI)) 4 rfl (pv 4))) (x_cons (e_var (z := size) (enc := eI) 1 rfl (pv 1)) x_nil))) (fun wipers713 => (ss_ifX (t_cmp (c_eqD (pd_lst pd_int) (by decide) C.room.units) (b_var (z := wipers713) (enc := eI) 6 rfl (pv 6)) (b_e (e_o (o_lst (enc := eI) (g := fun _ => []) a_nil (fun _ => rfl) (fun _ => small_line (Nat.zero_le _))))) rfl) (ss_brk (c := s711) (wk_e (wk_e (wk_e (wk_e (wk_e (wk_u (wk_u wk_n)))))))) nn_bk (ss_asg (enc := (eL eI)) (i := 4) C.nd (e_o (o_call C (by decide) (ok__law_left T) T.g__law_left T.k__law_left T.b__law_left (x_consL (b_e (e_var (z := s711) (enc := (eL eI)) 4 rfl (pv 4))) (x_cons (e_ixL (enc := eI) (b_var (z := wipers713) (enc := eI) 6 rfl (pv 6)) (e_mod (e_intI T.n_int (pa_cons (e_ixL (enc := eI) (b_var (z := draws709) (enc := eI) 3 rfl (pv 3)) (e_var (z := step712) (enc := eI) 5 rfl (pv 5))) pa_nil)) (e_lenL (enc := eI) T.n_len (pa_cons (b_var (z := wipers713) (enc := eI) 6 rfl (pv 6)) pa_nil)))) x_nil)))) (fun left717 => (ss_nil (b := left717) (wk_e (wk_e (wk_e (wk_e (wk_e (wk_u (wk_u wk_n))))))))) Wk.nil) Wk.nil)) Wk.nil)) (fun s718 => (ss_ret (enc := (eL eI)) (g := fun z => z) (e_var (z := s718) (enc := (eL eI)) 4 rfl (pv 4)) Wk.nil (fun _ => rfl))))) Wk.nil)) Wk.nil) (by simp only [mbk, mba, sqk, sqa, c__law_play])) (.inl rfl)
theorem ok_Marks___len__ (T : Tx K mg ca fa fd) : FnOk P w K mg base (L2N.CX P w) 1 (fa 23) (fd 23) ["self"] (spE K ca (xC eC_Marks xN) eI fun a => f_Marks___len__ a.1) :=
  fn_E (d := .no) (fn_ok (k := 0) (n := 0) (Nx := fun _ _ => []) (L := fun _ (_ : Empty) => []) (R := fun r : Int => .fr (eI r)) (encA := (xC eC_Marks xN)) (code := fun a => c_Marks___len__ a.1) T.F_Marks___len__ sc_Marks___len__ (fun _ => rfl) rfl fun cdv A outer s G H E a C => by
    obtain ⟨self, u0⟩ := a
    show DSs _ _ [.fr (eC_Marks self)] _ _ _ _ _
    exact ss_eq (ss_ret (enc := eI) (g := fun z => z) (e_lenT (enc := eI) T.n_len (pa_cons (e_FT (e_fld (g := fun z : (Int × (List Int) × (List Int)) => z.2.1) (enb := (eF eI)) (e_var (z := self) (enc := eC_Marks) 0 rfl (pv 0)) T.cl_Marks T.na_Marks_places fC_Marks_places)) pa_nil)) Wk.nil (fun _ => rfl)) (by simp only [mbk, mba, sqk, sqa, c_Marks___len__])) (.inl rfl)
theorem ok__law_numbers_v1 (T : Tx K mg ca fa fd) : FnOk P w K mg base (L2N.CX P w) 2 (fa 15) (fd 15) ["actual", "due", "as_tuple"] (spE K ca (xL eI (xL eI (xC eB xN))) eB fun a => f__law_numbers_v1 a.1 a.2.1 a.2.2.1) :=
  fn_E (d := .no) (fn_ok (k := 1) (n := 1) (Nx := fun _ _ => []) (L := fun _ (_ : Empty) => []) (R := fun r : Bool => .fr (eB r)) (encA := (xL eI (xL eI (xC eB xN)))) (code := fun a => c__law_numbers_v1 a.1 a.2.1 a.2.2.1) T.F__law_numbers sc__law_numbers (fun _ => rfl) rfl fun cdv A outer s G H E a C => by
    obtain ⟨actual, due, as_tuple, u0⟩ := a
    show DSs _ _ [.ln (List.map eI actual), .ln (List.map eI due), .fr (eB as_tuple), .un] _ _ _ _ _
    exact ss_eq (ss_ifX (t_w (w_orP (t_w (w_andP (t_val (e_var (z := as_tuple) (enc := eB) 2 rfl (pv 2))) (w_and1 (t_not (t_val (e_isi T.n_isinstance (.ty "tuple") (ty_lst (r := false) (by decide +kernel)) (pa_cons (l_var (z := actual) (enc := eI) 0 rfl (pv 0)) (pa_cons (pe_bltn (v := .ty "tuple") rfl T.n_tuple boot_tuple rfl) pa_nil)))))) rfl)) (w_or1 (t_w (w_andP (t_not (t_val (e_var (z := as_tuple) (enc := eB) 2 rfl (pv 2)))) (w_and1 (t_not (t_val (e_isi T.n_isinstance (.ty "list") (ty_lst (r := true) (by decide +kernel)) (pa_cons (l_var (z := actual) (enc := eI) 0 rfl (pv 0)) (pa_cons (pe_bltn (v := .ty "list") rfl T.n_list boot_list rfl) pa_nil)))))) rfl))) rfl)) (ss_ret (enc := eB) (g := fun z => z) e_bl Wk.nil (fun _ => rfl)) (nn_mb fun _ => nn_rt) (ss_ifX (t_cmp c_ne (b_e (e_lenL (enc := eI) T.n_len (pa_cons (l_var (z := actual) (enc := eI) 0 rfl (pv 0)) pa_nil))) (b_e (e_lenL (enc := eI) T.n_len (pa_cons (l_var (z := due) (enc := eI) 1 rfl (pv 1)) pa_nil))) rfl) (ss_ret (enc := eB) (g := fun z => z) e_bl Wk.nil (fun _ => rfl)) (nn_mb fun _ => nn_rt) (ss_for (L := fun (s742 : Unit) => [.ln (List.map eI actual), .ln (List.map eI due), .fr (eB as_tuple), .un]) () C (i_range1 rfl T.n_range (pa_cons (e_lenL (enc := eI) T.n_len (pa_cons (l_var (z := due) (enc := eI) 1 rfl (pv 1)) pa_nil)) pa_nil)) (g_name (enc := eI) (i := 3) C.nd) (wk_e (wk_e (wk_e (wk_u wk_n)))) Wk.nil (fun k743 s742 => (ss_ifX (t_w (w_or (t_not (t_val (e_call C (by decide) (ok__law_is_integer T) T.g__law_is_integer T.k__law_is_integer T.b__law_is_integer (x_cons (e_ixL (enc := eI) (l_var (z := actual) (enc := eI) 0 rfl (pv 0)) (e_var (z := k743) (enc := eI) 3 rfl (pv 3))) x_nil)))) (w_or1 (t_cmp c_ne (b_e (e_ixL (enc := eI) (l_var (z := actual) (enc := eI) 0 rfl (pv 0)) (e_var (z := k743) (enc := eI) 3 rfl (pv 3)))) (b_e (e_ixL (enc := eI) (l_var (z := due) (enc := eI) 1 rfl (pv 1)) (e_var (z := k743) (enc := eI) 3 rfl (pv 3)))) rfl)))) (ss_ret (enc := eB) (g := fun z => z) e_bl Wk.nil (fun _ => rfl)) (nn_mb fun _ => nn_rt) (ss_nil (b := ()) (wk_e (wk_e (wk_e (wk_u wk_n))))) Wk.nil)) (fun s750 => (ss_ret (enc := eB) (g := fun z => z) e_bl Wk.nil (fun _ => rfl)))) Wk.nil) Wk.nil) (by simp only [mbk, mba, sqk, sqa, c__law_numbers_v1])) (.inl rfl)
theorem ok__law_is_marks (T : Tx K mg ca fa fd) : FnOk P w K mg base (L2N.CX P w) 6 (fa 24) (fd 24) ["actual", "size", "places"] (spE K ca (xC eC_Marks (xC eI (xL eI xN))) eB fun a => f__law_is_marks a.1 a.2.1 a.2.2.1) :=
  fn_E (d := .no) (fn_ok (k := 5) (n := 0) (Nx := fun _ _ => []) (L := fun _ (_ : Empty) => []) (R := fun r : Bool => .fr (eB r)) (encA := (xC eC_Marks (xC eI (xL eI xN)))) (code := fun a => c__law_is_marks a.1 a.2.1 a.2.2.1) T.F__law_is_marks sc__law_is_marks (fun _ => rfl) rfl fun cdv A outer s G H E a C => by
    obtain ⟨actual, size, places, u0⟩ := a
    show DSs _ _ [.fr (eC_Marks actual), .fr (eI size), .ln (List.map eI places)] _ _ _ _ _
    exact ss_eq (ss_ifX (t_w (w_or (t_not (t_val (e_isi T.n_isinstance (.own (ca "Marks")) (ty_obj (enc := eC_Marks) T.is_Marks (fun _ => rfl) kit_self) (pa_cons (b_e (e_var (z := actual) (enc := eC_Marks) 0 rfl (pv 0))) (pa_cons (pe_glob rfl T.g_Marks rfl) pa_nil))))) (w_orP (t_not (t_val (e_call C (by decide) (ok__law_is_integer T) T.g__law_is_integer T.k__law_is_integer T.b__law_is_integer (x_cons (e_fld (g := fun z : (Int × (List Int) × (List Int)) => z.1) (enb := eI) (e_var (z := actual) (enc := eC_Marks) 0 rfl (pv 0)) T.cl_Marks T.na_Marks_size fC_Marks_size) x_nil)))) (w_or1 (t_cmp c_ne (b_e (e_fld (g := fun z : (Int × (List Int) × (List Int)) => z.1) (enb := eI) (e_var (z := actual) (enc := eC_Marks) 0 rfl (pv 0)) T.cl_Marks T.na_Marks_size fC_Marks_size)) (b_e (e_var (z := size) (enc := eI) 1 rfl (pv 1))) rfl)) rfl))) (ss_ret (enc := eB) (g := fun z => z) e_bl Wk.nil (fun _ => rfl)) (nn_mb fun _ => nn_rt) (ss_ifX (t_not (t_val (e_call C (by decide) (ok__law_numbers T) T.g__law_numbers T.k__law_numbers T.b__law_numbers (x_cons (e_FT (e_fld (g := fun z : (Int × (List Int) × (List Int)) => z.2.1) (enb := (eF eI)) (e_var (z := actual) (enc := eC_Marks) 0 rfl (pv 0)) T.cl_Marks T.na_Marks_places fC_Marks_places)) (x_consL (l_var (z := places) (enc := eI) 2 rfl (pv 2)) (x_cons e_bl x_nil)))))) (ss_ret (enc := eB) (g := fun z => z) e_bl Wk.nil (fun _ => rfl)) (nn_mb fun _ => nn_rt) (ss_ifX (t_not (t_val (e_call C (by decide) (ok__law_numbers T) T.g__law_numbers T.k__law_numbers T.b__law_numbers (x_cons (e_fld (g := fun z : (Int × (List Int) × (List Int)) => z.2.2) (enb := (eT eI)) (e_var (z := actual) (enc := eC_Marks) 0 rfl (pv 0)) T.cl_Marks T.na_Marks_gaps fC_Marks_gaps) (x_consL (b_e (e_o (o_call C (by decide) (ok__law_gaps T) T.g__law_gaps T.k__law_gaps T.b__law_gaps (x_consL (l_var (z := places) (enc := eI) 2 rfl (pv 2)) (x_cons (e_var (z := size) (enc := eI) 1 rfl (pv 1)) x_nil))))) (x_cons e_bl x_nil)))))) (ss_ret (enc := eB) (g := fun z => z) e_bl Wk.nil (fun _ => rfl)) (nn_mb fun _ => nn_rt) (ss_ret (enc := eB) (g := fun z => z) (e_and (e_cmp c_eq (b_e (e_lenO C (by decide) T.n_len T.cl_Marks T.m_Marks___len__.at_ T.m_Marks___len__.fn (ok_Marks___len__ T) T.b_Marks___len__ (fun z => (rfl : eC_Marks z = _)) (fun _ _ h => ok_ne h) (pa_cons (e_var (z := actual) (enc := eC_Marks) 0 rfl (pv 0)) pa_nil))) (b_e (e_lenL (enc := eI) T.n_len (pa_cons (l_var (z := places) (enc := eI) 2 rfl (pv 2)) pa_nil))) rfl) (e_one (e_call C (by decide) (ok__law_numbers_v1 T) T.g__law_numbers T.k__law_numbers T.b__law_numbers (x_consL (b_e (e_o (o_listObj C (by decide) (by decide) T.n_list T.m_Marks___iter__.at_ T.m_Marks___iter__.fn T.m_Marks___len__.at_ T.m_Marks___len__.fn (ok_Marks___iter__ T) T.b_Marks___iter__ (ok_Marks___len__ T) T.b_Marks___len__ (fun z => ⟨(fC_Marks_places z).1, _, (fC_Marks_places z).2, Den.toT⟩) (fun _ _ h => ok_ne h) (pa_cons (e_var (z := actual) (enc := eC_Marks) 0 rfl (pv 0)) pa_nil)))) (x_consL (l_var (z := places) (enc := eI) 2 rfl (pv 2)) (x_cons e_bl x_nil)))))) Wk.nil (fun _ => rfl)) Wk.nil) Wk.nil) Wk.nil) (by simp only [mbk, mba, sqk, sqa, c__law_is_marks])) (.inl rfl)
theorem ok_law (T : Tx K mg ca fa fd) : FnOk P w K mg base (L2N.CX P w) 9 (fa 25) (fd 25) ["script"] (spE K ca (xC eScr xN) eB fun a => f_law a.1) :=
  fn_E (d := .no) (fn_ok (k := 8) (n := 8) (Nx := fun _ _ => []) (L := fun _ (_ : Empty) => []) (R := fun r : Bool => .fr (eB r)) (encA := (xC eScr xN)) (code := fun a => c_law a.1) T.F_law sc_law (fun _ => rfl) rfl fun cdv A outer s G H E a C => by
    obtain ⟨script, u0⟩ := a
    show DSs _ _ [.fr (eScr script), .un, .un, .un, .un, .un, .un, .un, .un] _ _ _ _ _
    exact ss_eq (ss_asgG (enc := (eP2 eI (eL eI))) (e_call C (by decide) (ok__law_marks T) T.g__law_marks T.k__law_marks T.b__law_marks (x_cons (e_var (z := script) (enc := eScr) 0 rfl (pv 0)) x_nil)) (g_tup (enc := (eP2 eI (eL eI))) C.calm (gs_cons (d := fun z : (Int × (List Int)) => eI z.1) (i := 1) C.nd (gs_cons (d := fun z : (Int × (List Int)) => (eL eI) z.2) (i := 2) C.nd (gs_nil (β := (Int × (List Int)))))) (fun _ => rfl) (fun _ => rfl)) (fun u780 => (ss_asg (enc := eC_Marks) (i := 3) C.nd (e_make (kws := []) C (by decide) (fun _ _ _ _ _ h => h) T.mk_Marks (ok_Marks___init__ T) T.g_Marks T.kb0_Marks (x_cons (e_var (z := u780.1) (enc := eI) 1 rfl (pv 1)) (x_consL (b_e (e_o (o_list (enc := eI) T.n_list (pa_cons (b_e (e_var (z := u780.2) (enc := (eL eI)) 2 rfl (pv 2))) pa_nil)))) x_nil)) k_nil (fun _ => rfl) (fun _ => rfl) (a3 (mk := fun (z : _ × _ × Unit) (_ : Unit) => (z.1, z.2.1, ())) fun _ _ => rfl)) (fun marks781 => (ss_asgLc1 (i := 4) (ow := [("cut", 8)]) (enb := (eL eI)) C (i_list (enc := (eL eI)) (e_o (o_call C (by decide) (ok__law_even T) T.g__law_even T.k__law_even T.b__law_even (x_cons (e_var (z := u780.1) (enc := eI) 1 rfl (pv 1)) (x_consL (b_e (e_var (z := u780.2) (enc := (eL eI)) 2 rfl (pv 2))) x_nil))))) (blkOk_by (N := ["script", "size", "places", "marks", "due", "told", "first", "k", "cut"]) (sc := defScope s_law) (by decide +kernel)) (fun _ _ _ _ _ => pg_name (i := 8) sc_law.nd rfl (Or.inl rfl)) (gs_name (enc := (eL eI)) (i := 8) (by decide)) (fun _ _ _ _ _ C783 cut782 => (t_val (e_call C783 (by decide) (ok__law_can_be_had T) T.g__law_can_be_had T.k__law_can_be_had T.b__law_can_be_had (x_cons (e_var (z := u780.1) (enc := eI) 1 rfl (pv 1)) (x_consL (b_e (e_var (z := u780.2) (enc := (eL eI)) 2 rfl (pv 2))) (x_consL (b_e (e_var (z := cut782) (enc := (eL eI)) 8 rfl (pv 8))) x_nil)))))) (fun _ _ _ _ _ C783 cut782 => (e_var (z := cut782) (enc := (eL eI)) 8 rfl (pv 8))) (fun due785 => (ss_asgO (i := 5) C.nd (o_call C (by decide) (ok_mark_ends T) T.g_mark_ends T.k_mark_ends T.b_mark_ends (x_cons (e_var (z := marks781) (enc := eC_Marks) 3 rfl (pv 3)) x_nil)) (fun told786 => (ss_frz 4 rfl (ss_ifX (t_cmp (c_neD (pd_opt (pd_lst (pd_lst pd_int)) (fun _ => by rfl) (fun _ => by rfl)) (by decide) C.room.units) (b_e (e_call C (by decide) (ok__law_ends T) T.g__law_ends T.k__law_ends T.b__law_ends (x_consL (b_var (z := told786) (enc := (eT eI)) 5 rfl (pv 5)) x_nil))) (b_e (e_some (e_var (z := due785) (enc := (eL (eL eI))) 4 rfl (pv 4)))) rfl) (ss_ret (enc := eB) (g := fun z => z) e_bl Wk.nil (fun _ => rfl)) (nn_mb fun _ => nn_rt) (ss_app (enc := (eT eI)) (xs := told786) 5 rfl (pv 5) (e_tupH (enc := eI) (g := fun _ => []) a_nil (fun _ => rfl) (fun _ => small_line (Nat.zero_le _))) (fun told788 => (ss_asg (enc := eI) (i := 6) C.nd (e_ixL (enc := eI) (b_e (e_o (o_call C (by decide) (ok__law_draws T) T.g__law_draws T.k__law_draws T.b__law_draws (x_cons (e_call C (by decide) (ok__law_cell T) T.g__law_cell T.k__law_cell T.b__law_cell (x_cons (e_var (z := script) (enc := eScr) 0 rfl (pv 0)) (x_cons e_int x_nil))) (x_consL (b_e (e_o (o_lst (enc := eI) (g := fun z : Int × Unit => [z.1]) (a_cons e_int a_nil) (fun _ => rfl) (fun _ => small_line (by show 1 ≤ 1000; decide))))) x_nil))))) e_int) (fun first791 => (ss_for (L := fun (s792 : Unit) => [.fr (eScr script), .fr (eI u780.1), .fr ((eL eI) u780.2), .fr (eC_Marks marks781), .fr ((eL (eL eI)) due785), .ow (List.map (eT eI) told788), .fr (eI first791), .un, .un]) () C (i_range1 rfl T.n_range (pa_cons (e_min2 C.calm T.n_min (pa_cons (e_lenL (enc := (eL eI)) T.n_len (pa_cons (b_e (e_var (z := due785) (enc := (eL (eL eI))) 4 rfl (pv 4))) pa_nil)) (pa_cons e_int pa_nil))) pa_nil)) (g_name (enc := eI) (i := 7) C.nd) (wk_e (wk_e (wk_e (wk_e (wk_e (wk_e (wk_e (wk_u (wk_u wk_n))))))))) Wk.nil (fun k793 s792 => (ss_ifX (t_not (t_val (e_call C (by decide) (ok__law_end_left T) T.g__law_end_left T.k__law_end_left T.b__law_end_left (x_cons (e_var (z := marks781) (enc := eC_Marks) 3 rfl (pv 3)) (x_cons (e_var (z := u780.1) (enc := eI) 1 rfl (pv 1)) (x_cons (e_var (z := u780.2) (enc := (eL eI)) 2 rfl (pv 2)) (x_consL (b_e (e_ixL (enc := (eL eI)) (b_e (e_var (z := due785) (enc := (eL (eL eI))) 4 rfl (pv 4))) (e_mod (e_intI T.n_int (pa_cons (e_add (e_var (z := first791) (enc := eI) 6 rfl (pv 6)) (e_var (z := k793) (enc := eI) 7 rfl (pv 7))) pa_nil)) (e_lenL (enc := (eL eI)) T.n_len (pa_cons (b_e (e_var (z := due785) (enc := (eL (eL eI))) 4 rfl (pv 4))) pa_nil))))) x_nil))))))) (ss_ret (enc := eB) (g := fun z => z) e_bl Wk.nil (fun _ => rfl)) (nn_mb fun _ => nn_rt) (ss_nil (b := ()) (wk_e (wk_e (wk_e (wk_e (wk_e (wk_e (wk_e (wk_u (wk_u wk_n)))))))))) Wk.nil)) (fun s798 => (ss_for (L := fun (s799 : Unit) => [.fr (eScr script), .fr (eI u780.1), .fr ((eL eI) u780.2), .fr (eC_Marks marks781), .fr ((eL (eL eI)) due785), .ow (List.map (eT eI) told788), .fr (eI first791), .un, .un]) () C (i_range2 rfl T.n_range (pa_cons e_int (pa_cons e_int pa_nil))) (g_name (enc := eI) (i := 7) C.nd) (wk_e (wk_e (wk_e (wk_e (wk_e (wk_e (wk_e (wk_u (wk_u wk_n))))))))) Wk.nil (fun k800 s799 => (ss_ifX (t_cmp (c_notInD (pd_lst pd_int) (pd_lst (pd_lst pd_int)) (by decide) (by have := C.room.un; omega)) (b_e (e_call C (by decide) (ok__law_play T) T.g__law_play T.k__law_play T.b__law_play (x_cons (e_call C (by decide) (ok__law_cell T) T.g__law_cell T.k__law_cell T.b__law_cell (x_cons (e_var (z := script) (enc := eScr) 0 rfl (pv 0)) (x_cons (e_var (z := k800) (enc := eI) 7 rfl (pv 7)) x_nil))) (x_cons (e_var (z := u780.1) (enc := eI) 1 rfl (pv 1)) (x_cons (e_var (z := u780.2) (enc := (eL eI)) 2 rfl (pv 2)) x_nil))))) (b_e (e_var (z := due785) (enc := (eL (eL eI))) 4 rfl (pv 4))) rfl) (ss_ret (enc := eB) (g := fun z => z) e_bl Wk.nil (fun _ => rfl)) (nn_mb fun _ => nn_rt) (ss_nil (b := ()) (wk_e (wk_e (wk_e (wk_e (wk_e (wk_e (wk_e (wk_u (wk_u wk_n)))))))))) Wk.nil)) (fun s804 => (ss_ifX (t_w (w_or (t_cmp (c_neD (pd_opt (pd_lst (pd_lst pd_int)) (fun _ => by rfl) (fun _ => by rfl)) (by decide) C.room.units) (b_e (e_call C (by decide) (ok__law_ends T) T.g__law_ends T.k__law_ends T.b__law_ends (x_consL (b_e (e_o (o_call C (by decide) (ok_mark_ends T) T.g_mark_ends T.k_mark_ends T.b_mark_ends (x_cons (e_var (z := marks781) (enc := eC_Marks) 3 rfl (pv 3)) x_nil)))) x_nil))) (b_e (e_some (e_var (z := due785) (enc := (eL (eL eI))) 4 rfl (pv 4)))) rfl) (w_or1 (t_not (t_val (e_call C (by decide) (ok__law_is_marks T) T.g__law_is_marks T.k__law_is_marks T.b__law_is_marks (x_cons (e_var (z := marks781) (enc := eC_Marks) 3 rfl (pv 3)) (x_cons (e_var (z := u780.1) (enc := eI) 1 rfl (pv 1)) (x_consL (b_e (e_var (z := u780.2) (enc := (eL eI)) 2 rfl (pv 2))) x_nil))))))))) (ss_ret (enc := eB) (g := fun z => z) e_bl Wk.nil (fun _ => rfl)) (nn_mb fun _ => nn_rt) (ss_ifX (t_cmp (c_eqD (pd_lst pd_int) (by decide) C.room.units) (b_e (e_o (o_call C (by decide) (ok__law_wipers T) T.g__law_wipers T.k__law_wipers T.b__law_wipers (x_consL (b_e (e_var (z := u780.2) (enc := (eL eI)) 2 rfl (pv 2))) (x_cons (e_var (z := u780.1) (enc := eI) 1 rfl (pv 1)) x_nil))))) (b_e (e_o (o_lst (enc := eI) (g := fun _ => []) a_nil (fun _ => rfl) (fun _ => small_line (Nat.zero_le _))))) rfl) (ss_ret (enc := eB) (g := fun z => z) (e_cmp (c_eqD (pd_lst (pd_lst pd_int)) (by decide) C.room.units) (b_e (e_var (z := due785) (enc := (eL (eL eI))) 4 rfl (pv 4))) (b_e (e_o (o_lst (enc := (eL eI)) (g := fun z : (List Int) × Unit => [z.1]) (a_cons (e_var (z := u780.2) (enc := (eL eI)) 2 rfl (pv 2)) a_nil) (fun _ => rfl) (fun _ => small_line (by show 1 ≤ 1000; decide))))) rfl) Wk.nil (fun _ => rfl)) (nn_mb fun _ => nn_rt) (ss_ret (enc := eB) (g := fun z => z) (e_cmp c_eq (b_e (e_lenL (enc := eI) T.n_len (pa_cons (b_e (e_ixL (enc := (eL eI)) (b_e (e_var (z := due785) (enc := (eL (eL eI))) 4 rfl (pv 4))) e_int)) pa_nil))) (b_e e_int) rfl) Wk.nil (fun _ => rfl)) Wk.nil) Wk.nil)))))) Wk.nil)) Wk.nil (pe_bm PySem.F.plainAttrs_list PySem.F.slot_list_append PySem.F.type_list_append mt_append (pv 5) (pa_cons (e_tupH (enc := eI) (g := fun _ => []) a_nil (fun _ => rfl) (fun _ => small_line (Nat.zero_le _))) pa_nil))) Wk.nil))) Wk.nil)) Wk.nil)) Wk.nil)) Wk.nil) (by simp only [mbk, mba, sqk, sqa, c_law])) (.inl rfl)
end
/-! ### the plain law -/
theorem q_cell : f__law_cell = k__law_cell := rfl
theorem q_draws : f__law_draws = k__law_draws := rfl
theorem q_places : f__law_places = k__law_places := rfl
theorem q_init : f_Marks___init__ = k_Marks___init__ := rfl
theorem q_isMarks : f__law_is_marks = k__law_is_marks := rfl
theorem q_isint : f__law_is_integer = k__law_is_integer := rfl
theorem q_numT : f__law_numbers = k__law_numbers_v1 := rfl
theorem q_lgaps : f__law_gaps = k__law_gaps := rfl
theorem q_even : f__law_even = k__law_even := rfl
theorem q_ends : f_mark_ends = k_mark_ends := rfl
theorem q_inner : f_inner_marks = k_inner_marks := rfl
theorem q_fault : f_mark_fault_v1 = k_mark_fault := rfl
theorem q_wipers : f__law_wipers = k__law_wipers := rfl
theorem q_left : f__law_left = k__law_left := rfl
theorem hadK {n : Int} {ps cut : List Int} (o : OkP ps n) (hl : ps.length ≤ 80000) (hc : cut.length ≤ 80000) (ne : cut ≠ []) : f__law_can_be_had n ps cut = .ok (hadB n ps cut) := by
  unfold f__law_can_be_had c__law_can_be_had
  have n0 := o.pos
  rw [q_lgaps, lawGapsK n0 o.big, mbk, rngK (by decide) (by decide) (by omega) (by omega), mbk, forM_ret (fun k => !(decide (sAt ps k ∈ cut) || decide (gapV ps n k < wayV n cut (sAt ps k)))) (fun _ => false)]
  · unfold hadB
    cases e : (rng 0 (ps.length : Int)).find? fun k => !(decide (sAt ps k ∈ cut) || decide (gapV ps n k < wayV n cut (sAt ps k))) with
    | none =>
      have : ((rng 0 (ps.length : Int)).all fun k => decide (sAt ps k ∈ cut) || decide (gapV ps n k < wayV n cut (sAt ps k))) = true := List.all_eq_true.mpr fun k hk => by
        have := List.find?_eq_none.mp e k hk
        simpa [Classical.or_iff_not_imp_left] using this
      rw [this]; rfl
    | some x =>
      have : ((rng 0 (ps.length : Int)).all fun k => decide (sAt ps k ∈ cut) || decide (gapV ps n k < wayV n cut (sAt ps k))) = false := List.all_eq_false.mpr ⟨x, List.mem_of_find?_eq_some e, by
        have := List.find?_some e
        simpa using this⟩
      rw [this]; rfl
  · intro k hk
    obtain ⟨k0, k1⟩ := mem_rng.mp hk
    rw [ixS k0 k1]
    simp only [mbk]
    by_cases c : sAt ps k ∈ cut
    · rw [decide_eq_true c, if_neg (by decide)]
      rfl
    · rw [decide_eq_false c, if_pos (by decide), ixGap k0 k1, mbk, mapC_ok (g := fun h => (sAt ps k - h) % n) (lineK (by omega)) (fun h hh => by rw [modK n0])]
      rw [mbk, (minVK (xs := cut.map fun h => (sAt ps k - h) % n) (by simpa using ne)).1]
      simp only [mbk, Bool.false_or]
      show (if decide (wayV n cut (sAt ps k) ≤ gapV ps n k) = true then _ else _) = _
      by_cases q : wayV n cut (sAt ps k) ≤ gapV ps n k
      · rw [if_pos (decide_eq_true q), if_pos (by simpa using q)]
      · rw [if_neg (by simpa using q), if_neg (by simpa using q)]
theorem lawEndsLoop {δ : Type} : ∀ (post pre : List (List Int)), (pre ++ post).Pairwise keyLt → (∀ c ∈ pre ++ post, c ≠ [] ∧ c.length ≤ 80000) → (pre ++ post).length ≤ 80000 → (forM (fun (end580 : (List Int)) (s579 : List (List Int)) =>
    mb (if (!true) = true then .ok true else if (decide ((end580.length : Int) = 0)) = true then .ok true else mb (f__law_numbers end580 end580 true) fun v581 => (.ok (!v581))) fun v593 => if v593 = true then .ok (.rt (none : Option (List (List Int))))
    else mb (if (!decide (s579 = ([] : List (List Int)))) = true then mb (mb (mb (ixM end580 0) fun v582 => (.ok ((end580.length : Int), v582))) fun v587 => (.ok [v587.1, v587.2])) fun v589 => mb (mb (mb (mb (ixM s579 (-1)) fun v583 => (.ok (v583.length : Int))) fun v585 => mb (mb (ixM s579 (-1)) fun v584 => ixM v584 0) fun v586 => (.ok (v585, v586))) fun v588 => (.ok [v588.1, v588.2])) fun v590 => (.ok (leT v589 v590)) else .ok false) fun v592 => if v592 = true then .ok (.rt (none : Option (List (List Int))))
    else mb (app s579 end580) fun ends591 =>
    .ok (.nx ends591)) post pre : M (Out (List (List Int)) δ (Option (List (List Int))))) = .ok (.nx (pre ++ post))
  | [], pre, _, _, _ => by rw [List.append_nil]; rfl
  | c :: post, pre, pw, hc, hl => by
    obtain ⟨cn, cl⟩ := hc c (by simp)
    have c0 := List.length_pos_iff.mpr cn
    rw [List.length_append, List.length_cons] at hl
    have ih := lawEndsLoop (δ := δ) post (pre ++ [c]) (by simpa using pw) (by simpa using hc) (by simp; omega)
    rw [forM_nx8 (t := pre ++ [c]), ih]
    · simp
    · rw [if_neg (by decide), if_neg (by simpa using cn), q_numT, numbersTK true (by omega)]
      simp only [mbk, decide_true, Bool.and_true, Bool.not_true]
      rw [if_neg (by decide)]
      by_cases e : pre = []
      · subst e
        rw [if_neg (by simp)]
        simp only [mbk]
        rw [if_neg (by decide), appK (by simp)]
        rfl
      · obtain ⟨ini, d, rfl⟩ : ∃ ini d, pre = ini ++ [d] := ⟨pre.dropLast, pre.getLast e, (List.dropLast_concat_getLast e).symm⟩
        have dn := (hc d (by simp)).1
        have d0 := List.length_pos_iff.mpr dn
        have lt : keyLt d c := by
          have := (List.pairwise_append.mp pw).2.2 d (by simp) c List.mem_cons_self
          exact this
        rw [if_pos (by simp), ixS (by decide) (by omega), mbk, mbk, ixLast]
        simp only [mbk]
        rw [ixS (by decide) (by omega)]
        simp only [mbk]
        rw [leT_two, if_neg, appK (by omega)]
        · rfl
        · rcases lt with q | ⟨q1, q2⟩
          · rw [if_neg (by omega)]
            simp; omega
          · rw [if_pos (by omega)]
            simp; omega
theorem lawEndsK {cs : List (List Int)} (pw : cs.Pairwise keyLt) (hc : ∀ c ∈ cs, c ≠ [] ∧ c.length ≤ 80000) (hl : cs.length ≤ 80000) : f__law_ends cs = .ok (some cs) := by
  unfold f__law_ends c__law_ends
  rw [if_neg (by decide), lawEndsLoop cs [] (by simpa using pw) (by simpa using hc) (by simpa using hl), sqk, List.nil_append]
  rfl
/-! ### the plan -/
theorem outS_off {ps cut : List Int} {n f : Int} (o : OkP ps n) (h0 : 0 ≤ f) (h1 : f < ps.length) : ((outS ps cut f ps.length).map fun s => sAt ps (onI ps f s)).Pairwise (fun x y => offV n (sAt ps f) x < offV n (sAt ps f) y) := by
  rw [List.pairwise_map]
  unfold outS
  refine ((rng_sorted (ps.length : Int)).imp_of_mem fun {a b} ha hb lt => ?_).filter _
  have ra := mem_rng.mp ha
  have rb := mem_rng.mp hb
  have := on_lt o h0 h1 (b - a - 1).toNat a.toNat (by omega)
  rwa [show ((a.toNat : Nat) : Int) = a by omega, show a + (((b - a - 1).toNat + 1 : Nat) : Int) = b by omega] at this
theorem out_mem {ps cut : List Int} {n f : Int} (o : OkP ps n) (h0 : 0 ≤ f) (h1 : f < ps.length) (y : Int) : y ∈ ((outS ps cut f ps.length).map fun s => sAt ps (onI ps f s)) ↔ y ∈ ps ∧ y ∉ cut := by
  have e : ((outS ps cut f ps.length).map fun s => sAt ps (onI ps f s)) = (innV ps cut n f ps.length).map fun x => x.2.1 := by
    unfold innV
    rw [List.map_map]
    rfl
  rw [e, List.mem_map]
  constructor
  · rintro ⟨x, hx, rfl⟩
    obtain ⟨k, k0, k1, kc, rfl⟩ := (mem_inn o h0 h1).mp hx
    exact ⟨sAt_mem k0 k1, kc⟩
  · rintro ⟨hy, hc⟩
    obtain ⟨k, k0, k1, rfl⟩ := mem_sAt hy
    exact ⟨_, (mem_inn o h0 h1).mpr ⟨k, k0, k1, hc, rfl⟩, rfl⟩
theorem filter_cut {ps cut : List Int} {n : Int} (o : OkP ps n) (asc : cut.Pairwise (· < ·)) (sub : ∀ x ∈ cut, x ∈ ps) {xs : List Int} (hx : ∀ y, y ∈ xs ↔ y ∈ ps ∧ y ∉ cut) : (ps.filter fun y => !decide (y ∈ xs)) = cut := by
  refine List.Perm.eq_of_pairwise (le := (· ≤ ·)) (fun a b _ _ h1 h2 => Int.le_antisymm h1 h2) ((o.asc.filter _).imp fun q => Int.le_of_lt q) (asc.imp fun q => Int.le_of_lt q) ((List.perm_ext_iff_of_nodup ((o.asc.filter _).imp fun q => Int.ne_of_lt q) (asc.imp fun q => Int.ne_of_lt q)).mpr fun y => ?_)
  rw [List.mem_filter]
  constructor
  · rintro ⟨a, b⟩
    have : y ∉ xs := by simpa using b
    exact Classical.byContradiction fun c => this ((hx y).mpr ⟨a, c⟩)
  · intro c
    refine ⟨sub y c, ?_⟩
    have : y ∉ xs := fun z => ((hx y).mp z).2 c
    simpa using this
theorem planK {n : Int} {ps cut : List Int} (o : OkP ps n) (hl : ps.length ≤ 80000) (hs : spacedV n ps cut = true) (hc : cut.length ≤ ps.length) (had : hadB n ps cut = true) : ∃ f : Int, 0 ≤ f ∧ f < ps.length ∧ sAt ps f = sAt cut 0 ∧ f_wipe_plan (marksV n ps) cut = .ok ((innV ps cut n f ps.length).map fun x => x.1) := by
  obtain ⟨f, h0, h1, ef, ei, em⟩ := faultK o hl (by omega) hs
  refine ⟨f, h0, h1, ef, ?_⟩
  have none : faultV ps cut n f = none := by
    have := fault_none (cut := cut) o h0 h1
    rw [had] at this
    exact Option.isNone_iff_eq_none.mp this
  unfold f_wipe_plan c_wipe_plan
  rw [q_fault, em, none, mbk, if_neg (by decide), q_inner, ei, mbk, mapCk (g := fun x : Int × Int × Int × Int => x.1) (by have := inn_len ps cut n f; omega), mbk]
  rfl
theorem sub_count {ps cut : List Int} {n f : Int} (o : OkP ps n) (h0 : 0 ≤ f) (h1 : f < ps.length) (asc : cut.Pairwise (· < ·)) (sub : ∀ x ∈ cut, x ∈ ps) : (innV ps cut n f ps.length).length + cut.length = ps.length := by
  have nd : ((outS ps cut f ps.length).map fun s => sAt ps (onI ps f s)).Nodup := (outS_off o h0 h1).imp fun q e => by rw [e] at q; exact Int.lt_irrefl _ q
  have pm : (((outS ps cut f ps.length).map fun s => sAt ps (onI ps f s)) ++ cut).Perm ps := by
    refine (List.perm_ext_iff_of_nodup ?_ (o.asc.imp fun q => Int.ne_of_lt q)).mpr fun y => ?_
    · rw [List.nodup_append]
      exact ⟨nd, asc.imp fun q => Int.ne_of_lt q, fun a ha b hb e => ((out_mem o h0 h1 a).mp ha).2 (e ▸ hb)⟩
    · rw [List.mem_append, out_mem o h0 h1]
      constructor
      · rintro (⟨a, _⟩ | a)
        · exact a
        · exact sub y a
      · intro a
        by_cases c : y ∈ cut
        · exact .inr c
        · exact .inl ⟨a, c⟩
  have := pm.length_eq
  rw [List.length_append, List.length_map] at this
  unfold innV
  rw [List.length_map]
  exact this
theorem endLeftK {n : Int} {ps cut : List Int} (o : OkP ps n) (hl : ps.length ≤ 800) (hd : cut ∈ dueV n ps) : f__law_end_left (marksV n ps) n ps cut = .ok true := by
  obtain ⟨he, had⟩ := List.mem_filter.mp hd
  obtain ⟨hs, hc, ne⟩ := even_spaced o he
  obtain ⟨_, sub, asc, g, hg⟩ := spaced_in hs
  obtain ⟨f, h0, h1, ef, ep⟩ := planK o (by omega) hs hc had
  have cnt := sub_count o h0 h1 asc sub
  have oc : OkP cut n := ⟨ne, asc, fun p hp => o.rg p (sub p hp), by omega⟩
  have cc : sAt ps f ∈ cut := by
    rw [ef]
    have := List.length_pos_iff.mpr ne
    exact sAt_mem (by decide) (by omega)
  have lp : f__law_plan (marksV n ps) cut = .ok (some ((innV ps cut n f ps.length).map fun x => x.1)) := by
    unfold f__law_plan c__law_plan
    rw [ep]
    rfl
  have loop := planLoop (δ := Empty) o sub cc had ((outS ps cut f ps.length).map fun s => sAt ps (onI ps f s)) [] (outS_off o h0 h1) (fun y => by rw [List.nil_append]; exact out_mem o h0 h1 y)
  have em : ((outS ps cut f ps.length).map fun s => sAt ps (onI ps f s)).map (headV n cut) = (innV ps cut n f ps.length).map fun x => x.1 := by
    unfold innV
    rw [List.map_map, List.map_map]
    rfl
  rw [em, List.nil_append, filter_cut o asc sub (out_mem o h0 h1)] at loop
  rw [show (ps.filter fun y => !decide (y ∈ ([] : List Int))) = ps from List.filter_eq_self.mpr fun y _ => by simp] at loop
  unfold f__law_end_left c__law_end_left
  rw [lp, mbk]
  simp only [Option.isSome_some, if_true, Bool.not_true]
  rw [if_neg (by decide)]
  simp only [unO, mbk, List.length_map]
  rw [if_neg (by simp; omega), q_isint, q_wipers, q_left]
  show fnV .no (sq (forM (wipB n) ((innV ps cut n f ps.length).map fun x => x.1) ps) _) = _
  rw [loop, sqk, if_pos (by simp), lawWipersK oc, even_rest hg]
  rfl
/-! ### plays -/
def playB (n : Int) (ds : List Int) (step712 : Int) (s711 : List Int) : M (Out (List Int) (List Int) (List Int)) :=
    mb (k__law_wipers s711 n) fun wipers713 =>
    if (decide (wipers713 = ([] : List Int))) = true then .ok (.bk s711)
    else mb (mb (mb (mb (ixM ds step712) fun v714 => modM v714 (wipers713.length : Int)) fun v715 => ixM wipers713 v715) fun v716 => k__law_left s711 v716) fun left717 =>
    .ok (.nx left717)
theorem playStep {n x : Int} {ps L ds : List Int} (o : OkP ps n) (P : PlayI n ps L) (x0 : 0 ≤ x) (x1 : x < ds.length) : (playB n ds x L = .ok (.bk L) ∧ wipV L n = []) ∨ ∃ L', playB n ds x L = .ok (.nx L') ∧ PlayI n ps L' ∧ L'.length + 1 = L.length := by
  unfold playB
  simp only [lawWipersK P.ok, mbk]
  by_cases c : wipV L n = []
  · rw [if_pos (decide_eq_true c)]
    exact .inl ⟨rfl, c⟩
  · rw [if_neg (by simpa using c), ixS x0 x1, mbk]
    have wl := List.length_pos_iff.mpr c
    rw [modK (by omega), mbk]
    have m0 := Int.emod_nonneg (sAt ds x) (show ((wipV L n).length : Int) ≠ 0 by omega)
    have m1 := Int.emod_lt_of_pos (sAt ds x) (show (0 : Int) < ((wipV L n).length : Int) by omega)
    rw [ixS m0 m1, mbk]
    obtain ⟨k, hk, ek⟩ := List.mem_map.mp (sAt_mem (xs := wipV L n) m0 m1)
    rw [← ek, lawLeftK P.ok hk, mbk]
    obtain ⟨k0, k1, _, _⟩ := wi_two hk
    have nk := nx_rg k0 k1
    exact .inr ⟨_, rfl, P.step o hk, left_len nk.1 nk.2⟩
theorem playLoop {δ : Type} {n : Int} {ps ds : List Int} (o : OkP ps n) : ∀ (xs L : List Int), (∀ x ∈ xs, 0 ≤ x ∧ x < (ds.length : Int)) → PlayI n ps L → L.length ≤ xs.length → ∃ M', (forM (playB n ds) xs L : M (Out (List Int) δ (List Int))) = .ok (.nx M') ∧ M' ∈ dueV n ps
  | [], L, _, P, hl => by
    have := List.length_pos_iff.mpr P.ok.ne
    rw [List.length_nil] at hl
    omega
  | x :: xs, L, hx, P, hl => by
    obtain ⟨x0, x1⟩ := hx x List.mem_cons_self
    rw [List.length_cons] at hl
    rcases playStep (ds := ds) o P x0 x1 with ⟨h, hr⟩ | ⟨L', h, P', hl'⟩
    · refine ⟨L, ?_, P.due o hr⟩
      exact forM_bk8 h
    · obtain ⟨M', e, h2⟩ := playLoop (δ := δ) o xs L' (fun y hy => hx y (List.mem_cons_of_mem _ hy)) P' (by omega)
      exact ⟨M', by rw [forM_nx8 h, e], h2⟩
theorem playK {n : Int} (cell : Int) {ps : List Int} (o : OkP ps n) (hl : ps.length ≤ 800) : ∃ L, f__law_play cell n ps = .ok L ∧ L ∈ dueV n ps := by
  unfold f__law_play c__law_play
  rw [rep1 (by omega) (by omega), mbk]
  obtain ⟨ds, e, dr⟩ := drawsK cell (sizes := List.replicate (ps.length : Int).toNat 5040) (by simp; omega) (fun s hs => by
    have e := (List.mem_replicate.mp hs).2
    omega)
  have dl : ds.length = ps.length := by rw [dr.1]; simp
  rw [q_draws, e, mbk, rngK (by decide) (by decide) (by omega) (by omega), mbk, q_wipers, q_left]
  obtain ⟨L, e1, e2⟩ := playLoop (δ := Empty) (ds := ds) o (rng 0 (ps.length : Int)) ps (fun x hx => by
    have := mem_rng.mp hx
    omega) (PlayI.start o) (by rw [rng_len]; omega)
  refine ⟨L, ?_, e2⟩
  show fnV .no (sq (forM (playB n ds) (rng 0 (ps.length : Int)) ps) fun s => .ok (.rt s)) = _
  rw [e1]
  rfl
/-! ### the marks that are asked about -/
theorem marksK (ns : List Int) : ∃ n ps, f__law_marks ns = .ok (n, ps) ∧ OkP ps n ∧ n ≤ 80 := by
  unfold f__law_marks c__law_marks
  rw [q_cell, q_draws, q_places]
  obtain ⟨c0, e0⟩ := cellK ns (k := 0) (by decide)
  obtain ⟨c1, e1⟩ := cellK ns (k := 1) (by decide)
  rw [e0, mbk, e1]
  obtain ⟨ds, es, dr⟩ := drawsK c0 (sizes := [8, 60, 60]) (by decide) (by decide)
  have dl : ds.length = 3 := dr.1
  obtain ⟨d0, x0, y0, l0, u0⟩ := dr.at 0 rfl
  obtain ⟨d1, x1, y1, l1, u1⟩ := dr.at 1 rfl
  obtain ⟨d2, x2, y2, l2, u2⟩ := dr.at 2 rfl
  have ed : ds = [d0, d1, d2] := by
    apply List.ext_getElem?
    intro i
    match i with
    | 0 => exact y0
    | 1 => exact y1
    | 2 => exact y2
    | i + 3 => rw [List.getElem?_eq_none (by omega), List.getElem?_eq_none (by simp)]
  rw [es, mbk, ed]
  simp only [un3, mbk]
  by_cases c : 4 ≤ d0
  · rw [if_pos (decide_eq_true c), modK (by decide), mbk]
    have m0 := Int.emod_nonneg d1 (show (24 : Int) ≠ 0 by decide)
    have m1 := Int.emod_lt_of_pos d1 (show (0 : Int) < 24 by decide)
    have hz : ∃ w, ixM [d1 % 24, d1] (if decide (d0 = 7) = true then 1 else 0) = .ok w ∧ 0 ≤ w ∧ w < 60 := by
      by_cases q : d0 = 7
      · rw [if_pos (decide_eq_true q)]; exact ⟨d1, rfl, l1, u1⟩
      · rw [if_neg (by simpa using q)]; exact ⟨d1 % 24, rfl, m0, by omega⟩
    obtain ⟨w, ew, w0, w1⟩ := hz
    simp only [ew, mbk]
    obtain ⟨ps, ep, op⟩ := placesK c1 (n := 1 + w) (by omega) (by omega)
    rw [ep]
    exact ⟨1 + w, ps, rfl, op, by omega⟩
  · rw [if_neg (by simpa using c), rep1 (by decide) (by decide), mbk, catK (by decide), mbk]
    obtain ⟨bs, eb, br⟩ := drawsK c1 (sizes := [5, 60] ++ List.replicate (5 : Int).toNat 3) (by decide) (by decide)
    have bl : bs.length = 7 := br.1
    obtain ⟨b0, z0, _, p0, q0⟩ := br.at 0 rfl
    obtain ⟨b1, z1, _, p1, q1⟩ := br.at 1 rfl
    rw [eb]
    have y0' : ixM bs 0 = .ok b0 := z0
    have y1' : ixM bs 1 = .ok b1 := z1
    simp only [mbk, y0', y1']
    have hcut := cut_mid (a := 2) bs (3 + b0) (by omega) (by omega)
    have cl : (cut bs (some 2) (some (3 + b0))).length = (1 + b0).toNat := by
      rw [show cut bs (some 2) (some (3 + b0)) = (bs.drop 2).take ((3 + b0).toNat - 2) from hcut, List.length_take, List.length_drop]
      omega
    have dr3 := (br.drop).drop
    have hr : ∀ p ∈ cut bs (some 2) (some (3 + b0)), 0 ≤ p ∧ p < 3 := by
      intro p hp
      rw [show cut bs (some 2) (some (3 + b0)) = (bs.drop 2).take ((3 + b0).toNat - 2) from hcut] at hp
      obtain ⟨s, hs, q⟩ := dr3.mem (d := p) (by simpa [List.drop_drop] using List.mem_of_mem_take hp)
      rw [(List.mem_replicate.mp hs).2] at q
      exact q
    rw [mapCk (g := fun x : Int => 1 + x) (by omega), mbk]
    generalize hbk : (cut bs (some 2) (some (3 + b0))).map (fun x => 1 + x) = bk
    have bkl : bk.length = (1 + b0).toNat := by rw [← hbk, List.length_map, cl]
    have bkr : ∀ g ∈ bk, 1 ≤ g ∧ g ≤ 3 := fun g hg => by
      rw [← hbk] at hg
      obtain ⟨p, hp, rfl⟩ := List.mem_map.mp hg
      have := hr p hp
      omega
    have s3 := sum_bd (B := 3) (by decide) (xs := bk) fun g hg => (bkr g hg).2
    have s1 : 0 < bk.sum := (pl_ok (a := 0) (fun z => by rw [z] at bkl; simp at bkl; omega) (fun g hg => (bkr g hg).1) (by omega)).1
    rw [divK s1 (by omega), mbk, mbk]
    have q2 : 2 ≤ 36 / bk.sum := by
      rw [Int.le_ediv_iff_mul_le s1]; omega
    rw [modK (by omega), mbk, mbk]
    have m0 := Int.emod_nonneg b1 (show min 4 (36 / bk.sum) ≠ 0 by omega)
    have m1 := Int.emod_lt_of_pos b1 (show 0 < min 4 (36 / bk.sum) by omega)
    generalize b1 % min 4 (36 / bk.sum) = t at *
    have tl : bk.length * (1 + t).toNat ≤ 20 := Nat.le_trans (Nat.mul_le_mul (show bk.length ≤ 5 by omega) (show (1 + t).toNat ≤ 4 by omega)) (by decide)
    rw [repK (by omega) (by omega) (by omega), mbk]
    generalize hgs : (List.replicate (1 + t).toNat bk).flatten = gs
    have gl : gs.length = (1 + t).toNat * bk.length := by rw [← hgs]; simp
    have gl2 : gs.length ≤ 20 := by rw [gl, Nat.mul_comm]; exact tl
    have gr : ∀ g ∈ gs, 1 ≤ g ∧ g ≤ 3 := fun g hg => by
      rw [← hgs] at hg
      obtain ⟨l, hl, hx⟩ := List.mem_flatten.mp hg
      rw [(List.mem_replicate.mp hl).2] at hx
      exact bkr g hx
    have gn : gs ≠ [] := fun z => by
      rw [z] at gl
      have : 0 < (1 + t).toNat * bk.length := Nat.mul_pos (by omega) (by omega)
      rw [← gl] at this
      exact absurd this (by decide)
    obtain ⟨gs1, gok⟩ := pl_ok (a := d2) gn (fun g hg => (gr g hg).1) (by omega)
    have gb := sum_bd (B := 3) (by decide) (xs := gs) fun g hg => (gr g hg).2
    rw [plLoop gs1 gs d2 [] (by simp; omega), sqk, List.nil_append]
    exact ⟨gs.sum, _, rfl, gok, by omega⟩
theorem law_true : ∀ ns : List Int, ns.length ≤ 63 → f_law ns = .ok true := by
  intro ns _
  unfold f_law c_law
  obtain ⟨n, ps, em, o, hn⟩ := marksK ns
  have pl := okP_len o
  have n0 := o.pos
  rw [em, mbk, q_init, markInitK o, mbk, q_even, lawEvenK o (by omega) (by omega), mbk]
  have evl : (evenV n ps).length ≤ 10000 := by
    unfold evenV
    have : ∀ xs : List Int, (xs.flatMap fun m => if n % m = 0 then cutsV n ps m else []).length ≤ xs.length * 100 := by
      intro xs
      induction xs with
      | nil => simp
      | cons x xs ih =>
        rw [List.flatMap_cons, List.length_append, List.length_cons]
        have c := cuts_len n ps x
        have : (if n % x = 0 then cutsV n ps x else []).length ≤ 100 := by
          split
          · omega
          · simp
        omega
    have h1 := this (rng 1 ((ps.length : Int) + 1))
    rw [rng_len] at h1
    omega
  have dul : (dueV n ps).length ≤ 10000 := Nat.le_trans (List.length_filter_le _ _) evl
  rw [lcK (fun c => hadB n ps c) (fun c => c) (by omega) (fun c hc => by
    obtain ⟨_, h2, h3⟩ := even_spaced o hc
    exact hadK o (show ps.length ≤ 80000 by omega) (show c.length ≤ 80000 by omega) h3) (fun _ _ => rfl), List.map_id', mbk]
  show fnV .no (mb (f_mark_ends (marksV n ps)) fun told786 => _) = _
  rw [q_ends, endsK o (by omega) (by omega), mbk]
  have le : f__law_ends (dueV n ps) = .ok (some (dueV n ps)) := lawEndsK (due_sorted o) (fun c hc => by
    obtain ⟨_, h2, h3⟩ := even_spaced o (due_even hc)
    exact ⟨h3, by omega⟩) (by omega)
  rw [le, mbk, mbk]
  rw [if_neg (by simp [dueV]), appK (by omega), mbk]
  obtain ⟨c5, e5⟩ := cellK ns (k := 5) (by decide)
  rw [q_cell, q_draws, e5]
  simp only [mbk]
  obtain ⟨fs, ef, fr⟩ := drawsK c5 (sizes := [168]) (by decide) (by decide)
  obtain ⟨f0, xf, _, lf, uf⟩ := fr.at 0 rfl
  have yf : ixM fs 0 = .ok f0 := xf
  rw [ef]
  simp only [mbk, yf]
  have dn : dueV n ps ≠ [] := fun z => by
    by_cases r : wipV ps n = []
    · rw [due_rest o r] at z; cases z
    · obtain ⟨c, cs, e, _⟩ := due_one o r
      rw [e] at z; cases z
  have dl := List.length_pos_iff.mpr dn
  show fnV .no (mb (rngM 0 (min ((dueV n ps).length : Int) 12)) _) = _
  rw [rngK (by decide) (by decide) (by omega) (by omega), mbk, forM_pass, sqk]
  · rw [rngK (by decide) (by decide) (by decide) (by decide), mbk, forM_pass, sqk]
    · rw [le]
      simp only [mbk]
      rw [if_neg (by simp [dueV]), q_isMarks, isMarksK o]
      simp only [mbk, Bool.not_true]
      rw [if_neg (by decide), q_wipers, lawWipersK o]
      simp only [mbk]
      by_cases r : wipV ps n = []
      · rw [if_pos (decide_eq_true r)]
        have := due_rest o r
        unfold dueV at this
        rw [this]
        simp [k_ok]
      · rw [if_neg (by simpa using r)]
        obtain ⟨c, cs, e, e1⟩ := due_one o r
        unfold dueV at e
        rw [e]
        have i0 : ixM (c :: cs) 0 = .ok c := ixE (by decide) rfl
        rw [i0, mbk, mbk, e1]
        rfl
    · intro k hk
      have rk := mem_rng.mp hk
      obtain ⟨ck, ek⟩ := cellK ns (k := k) (by omega)
      rw [ek, mbk]
      obtain ⟨L, eL, hL⟩ := playK ck o (by omega)
      rw [eL, mbk, mbk]
      have : memB L (dueV n ps) = true := by unfold memB; simpa using hL
      unfold dueV at this
      rw [this]
      rfl
  · intro k hk
    have rk := mem_rng.mp hk
    rw [modK (by show (0 : Int) < ((dueV n ps).length : Int); omega), mbk]
    have m0 := Int.emod_nonneg (f0 + k) (show ((dueV n ps).length : Int) ≠ 0 by omega)
    have m1 := Int.emod_lt_of_pos (f0 + k) (show (0 : Int) < ((dueV n ps).length : Int) by omega)
    have ix : ixM (dueV n ps) ((f0 + k) % ((dueV n ps).length : Int)) = .ok ((dueV n ps)[((f0 + k) % ((dueV n ps).length : Int)).toNat]'(by omega)) := ixE m0 (List.getElem?_eq_getElem (by omega))
    show mb (mb (mb (ixM (dueV n ps) ((f0 + k) % ((dueV n ps).length : Int))) fun v795 => f__law_end_left (marksV n ps) n ps v795) fun v => .ok (!v)) _ = _
    rw [ix, mbk, endLeftK o (by omega) (List.getElem_mem _)]
    rfl

/-! ### the top, the head -/
theorem all_mk {l : PySem.W.OpenLaw} {w : World} {K : PySem.W.Frag} {h : Heap} {mg : Str → Option Value} {fa0 : Addr} (X : K.In h) (G : h.Ns mainGlobals mg) (hfa : mg "law" = some (.ref fa0))
    {c_BadMarks : Addr}
    {c_Marks : Addr}
    {c_BadCut : Addr}
    {c_RetinueError : Addr}
    {c_NoEnd : Addr}
    {f0 : Addr} {od0 an0 : Option Addr} {sl0 : Array (Option Value)} {oc0 kV0 dc0 pm0 cd0 ct0 : Value}
    {f1 : Addr} {od1 an1 : Option Addr} {sl1 : Array (Option Value)} {oc1 kV1 dc1 pm1 cd1 ct1 : Value}
    {f2 : Addr} {od2 an2 : Option Addr} {sl2 : Array (Option Value)} {oc2 kV2 dc2 pm2 cd2 ct2 : Value}
    {f3 : Addr} {od3 an3 : Option Addr} {sl3 : Array (Option Value)} {oc3 kV3 dc3 pm3 cd3 ct3 : Value}
    {f4 : Addr} {od4 an4 : Option Addr} {sl4 : Array (Option Value)} {oc4 kV4 dc4 pm4 cd4 ct4 : Value}
    {f5 : Addr} {od5 an5 : Option Addr} {sl5 : Array (Option Value)} {oc5 kV5 dc5 pm5 cd5 ct5 : Value}
    {f6 : Addr} {od6 an6 : Option Addr} {sl6 : Array (Option Value)} {oc6 kV6 dc6 pm6 cd6 ct6 : Value}
    {f7 : Addr} {od7 an7 : Option Addr} {sl7 : Array (Option Value)} {oc7 kV7 dc7 pm7 cd7 ct7 : Value}
    {f8 : Addr} {od8 an8 : Option Addr} {sl8 : Array (Option Value)} {oc8 kV8 dc8 pm8 cd8 ct8 : Value}
    {f9 : Addr} {od9 an9 : Option Addr} {sl9 : Array (Option Value)} {oc9 kV9 dc9 pm9 cd9 ct9 : Value}
    {f10 : Addr} {od10 an10 : Option Addr} {sl10 : Array (Option Value)} {oc10 kV10 dc10 pm10 cd10 ct10 : Value}
    {f11 : Addr} {od11 an11 : Option Addr} {sl11 : Array (Option Value)} {oc11 kV11 dc11 pm11 cd11 ct11 : Value}
    {f12 : Addr} {od12 an12 : Option Addr} {sl12 : Array (Option Value)} {oc12 kV12 dc12 pm12 cd12 ct12 : Value}
    {f13 : Addr} {od13 an13 : Option Addr} {sl13 : Array (Option Value)} {oc13 kV13 dc13 pm13 cd13 ct13 : Value}
    {f14 : Addr} {od14 an14 : Option Addr} {sl14 : Array (Option Value)} {oc14 kV14 dc14 pm14 cd14 ct14 : Value}
    {f15 : Addr} {od15 an15 : Option Addr} {sl15 : Array (Option Value)} {oc15 kV15 dc15 pm15 cd15 ct15 : Value}
    {f16 : Addr} {od16 an16 : Option Addr} {sl16 : Array (Option Value)} {oc16 kV16 dc16 pm16 cd16 ct16 : Value}
    {f17 : Addr} {od17 an17 : Option Addr} {sl17 : Array (Option Value)} {oc17 kV17 dc17 pm17 cd17 ct17 : Value}
    {f18 : Addr} {od18 an18 : Option Addr} {sl18 : Array (Option Value)} {oc18 kV18 dc18 pm18 cd18 ct18 : Value}
    {f19 : Addr} {od19 an19 : Option Addr} {sl19 : Array (Option Value)} {oc19 kV19 dc19 pm19 cd19 ct19 : Value}
    {f20 : Addr} {od20 an20 : Option Addr} {sl20 : Array (Option Value)} {oc20 kV20 dc20 pm20 cd20 ct20 : Value}
    {f21 : Addr} {od21 an21 : Option Addr} {sl21 : Array (Option Value)} {oc21 kV21 dc21 pm21 cd21 ct21 : Value}
    {f22 : Addr} {od22 an22 : Option Addr} {sl22 : Array (Option Value)} {oc22 kV22 dc22 pm22 cd22 ct22 : Value}
    {f23 : Addr} {od23 an23 : Option Addr} {sl23 : Array (Option Value)} {oc23 kV23 dc23 pm23 cd23 ct23 : Value}
    {f24 : Addr} {od24 an24 : Option Addr} {sl24 : Array (Option Value)} {oc24 kV24 dc24 pm24 cd24 ct24 : Value}
    {f25 : Addr} {od25 an25 : Option Addr} {sl25 : Array (Option Value)} {oc25 kV25 dc25 pm25 cd25 ct25 : Value}
    {f26 : Addr} {od26 an26 : Option Addr} {sl26 : Array (Option Value)} {oc26 kV26 dc26 pm26 cd26 ct26 : Value}
    {f27 : Addr} {od27 an27 : Option Addr} {sl27 : Array (Option Value)} {oc27 kV27 dc27 pm27 cd27 ct27 : Value}
    {f28 : Addr} {od28 an28 : Option Addr} {sl28 : Array (Option Value)} {oc28 kV28 dc28 pm28 cd28 ct28 : Value}
    {f29 : Addr} {od29 an29 : Option Addr} {sl29 : Array (Option Value)} {oc29 kV29 dc29 pm29 cd29 ct29 : Value}
    {nm_BadMarks q_BadMarks : Str} {N_BadMarks : Addr} {bs_BadMarks bm_BadMarks : List Value} {sn_BadMarks : List Str} {sub_BadMarks : List Value} {ab_BadMarks : Bool} {col_BadMarks : Option Bool} {dd_BadMarks : Option Addr} {m0_BadMarks m1_BadMarks m2_BadMarks m3_BadMarks m5_BadMarks : Option Value}
    {nm_BadCut q_BadCut : Str} {N_BadCut : Addr} {bs_BadCut bm_BadCut : List Value} {sn_BadCut : List Str} {sub_BadCut : List Value} {ab_BadCut : Bool} {col_BadCut : Option Bool} {dd_BadCut : Option Addr} {m0_BadCut m1_BadCut m2_BadCut m3_BadCut m5_BadCut : Option Value}
    {nm_NoEnd q_NoEnd : Str} {N_NoEnd : Addr} {bs_NoEnd bm_NoEnd : List Value} {sn_NoEnd : List Str} {sub_NoEnd : List Value} {ab_NoEnd : Bool} {col_NoEnd : Option Bool} {dd_NoEnd : Option Addr} {m0_NoEnd m1_NoEnd m2_NoEnd m3_NoEnd m5_NoEnd : Option Value}
    (aC_BadMarks : PySem.W.nsIn K mainGlobals "BadMarks" = some (some (.ref c_BadMarks)))
    (aC_Marks : PySem.W.nsIn K mainGlobals "Marks" = some (some (.ref c_Marks)))
    (aC_BadCut : PySem.W.nsIn K mainGlobals "BadCut" = some (some (.ref c_BadCut)))
    (aC_RetinueError : PySem.W.nsIn K mainGlobals "RetinueError" = some (some (.ref c_RetinueError)))
    (aC_NoEnd : PySem.W.nsIn K mainGlobals "NoEnd" = some (some (.ref c_NoEnd)))
    (a0 : PySem.W.nsIn K mainGlobals "_law_cell" = some (some (.ref f0)))
    (l0 : K.lookup f0 = some ⟨oc0, od0, .func (PySem.W.fnOf "_law_cell" "_law_cell" (defArgs s__law_cell) (defBody s__law_cell) (defScope s__law_cell) .none kV0 dc0 pm0 an0 cd0 ct0), sl0⟩)
    (co0 : PySem.W.codeIn K cd0 "_law_cell" = true)
    (k0 : PySem.W.keepIn K (.ref f0) = true)
    (a1 : PySem.W.nsIn K mainGlobals "_law_draws" = some (some (.ref f1)))
    (l1 : K.lookup f1 = some ⟨oc1, od1, .func (PySem.W.fnOf "_law_draws" "_law_draws" (defArgs s__law_draws) (defBody s__law_draws) (defScope s__law_draws) .none kV1 dc1 pm1 an1 cd1 ct1), sl1⟩)
    (co1 : PySem.W.codeIn K cd1 "_law_draws" = true)
    (k1 : PySem.W.keepIn K (.ref f1) = true)
    (a2 : PySem.W.nsIn K mainGlobals "_law_places" = some (some (.ref f2)))
    (l2 : K.lookup f2 = some ⟨oc2, od2, .func (PySem.W.fnOf "_law_places" "_law_places" (defArgs s__law_places) (defBody s__law_places) (defScope s__law_places) .none kV2 dc2 pm2 an2 cd2 ct2), sl2⟩)
    (co2 : PySem.W.codeIn K cd2 "_law_places" = true)
    (k2 : PySem.W.keepIn K (.ref f2) = true)
    (a3 : PySem.W.nsIn K mainGlobals "_law_marks" = some (some (.ref f3)))
    (l3 : K.lookup f3 = some ⟨oc3, od3, .func (PySem.W.fnOf "_law_marks" "_law_marks" (defArgs s__law_marks) (defBody s__law_marks) (defScope s__law_marks) .none kV3 dc3 pm3 an3 cd3 ct3), sl3⟩)
    (co3 : PySem.W.codeIn K cd3 "_law_marks" = true)
    (k3 : PySem.W.keepIn K (.ref f3) = true)
    (a4 : PySem.W.nsIn K mainGlobals "gaps_between" = some (some (.ref f4)))
    (l4 : K.lookup f4 = some ⟨oc4, od4, .func (PySem.W.fnOf "gaps_between" "gaps_between" (defArgs s_gaps_between) (defBody s_gaps_between) (defScope s_gaps_between) .none kV4 dc4 pm4 an4 cd4 ct4), sl4⟩)
    (co4 : PySem.W.codeIn K cd4 "gaps_between" = true)
    (k4 : PySem.W.keepIn K (.ref f4) = true)
    (a5 : PySem.W.findIn K (.ref c_Marks) "__init__" = some (some (.ref f5)))
    (l5 : K.lookup f5 = some ⟨oc5, od5, .func (PySem.W.fnOf "__init__" "Marks.__init__" (defArgs s_Marks___init__) (defBody s_Marks___init__) (defScope s_Marks___init__) .none kV5 dc5 pm5 an5 cd5 ct5), sl5⟩)
    (co5 : PySem.W.codeIn K cd5 "Marks.__init__" = true)
    (k5 : PySem.W.keepIn K (.ref f5) = true)
    (a6 : PySem.W.nsIn K mainGlobals "_law_even" = some (some (.ref f6)))
    (l6 : K.lookup f6 = some ⟨oc6, od6, .func (PySem.W.fnOf "_law_even" "_law_even" (defArgs s__law_even) (defBody s__law_even) (defScope s__law_even) .none kV6 dc6 pm6 an6 cd6 ct6), sl6⟩)
    (co6 : PySem.W.codeIn K cd6 "_law_even" = true)
    (k6 : PySem.W.keepIn K (.ref f6) = true)
    (a7 : PySem.W.nsIn K mainGlobals "_law_gaps" = some (some (.ref f7)))
    (l7 : K.lookup f7 = some ⟨oc7, od7, .func (PySem.W.fnOf "_law_gaps" "_law_gaps" (defArgs s__law_gaps) (defBody s__law_gaps) (defScope s__law_gaps) .none kV7 dc7 pm7 an7 cd7 ct7), sl7⟩)
    (co7 : PySem.W.codeIn K cd7 "_law_gaps" = true)
    (k7 : PySem.W.keepIn K (.ref f7) = true)
    (a8 : PySem.W.nsIn K mainGlobals "_law_can_be_had" = some (some (.ref f8)))
    (l8 : K.lookup f8 = some ⟨oc8, od8, .func (PySem.W.fnOf "_law_can_be_had" "_law_can_be_had" (defArgs s__law_can_be_had) (defBody s__law_can_be_had) (defScope s__law_can_be_had) .none kV8 dc8 pm8 an8 cd8 ct8), sl8⟩)
    (co8 : PySem.W.codeIn K cd8 "_law_can_be_had" = true)
    (k8 : PySem.W.keepIn K (.ref f8) = true)
    (a9 : PySem.W.nsIn K mainGlobals "is_spaced" = some (some (.ref f9)))
    (l9 : K.lookup f9 = some ⟨oc9, od9, .func (PySem.W.fnOf "is_spaced" "is_spaced" (defArgs s_is_spaced) (defBody s_is_spaced) (defScope s_is_spaced) .none kV9 dc9 pm9 an9 cd9 ct9), sl9⟩)
    (co9 : PySem.W.codeIn K cd9 "is_spaced" = true)
    (k9 : PySem.W.keepIn K (.ref f9) = true)
    (a10 : PySem.W.nsIn K mainGlobals "check_end" = some (some (.ref f10)))
    (l10 : K.lookup f10 = some ⟨oc10, od10, .func (PySem.W.fnOf "check_end" "check_end" (defArgs s_check_end) (defBody s_check_end) (defScope s_check_end) .none kV10 dc10 pm10 an10 cd10 ct10), sl10⟩)
    (co10 : PySem.W.codeIn K cd10 "check_end" = true)
    (k10 : PySem.W.keepIn K (.ref f10) = true)
    (a11 : PySem.W.nsIn K mainGlobals "inner_marks" = some (some (.ref f11)))
    (l11 : K.lookup f11 = some ⟨oc11, od11, .func (PySem.W.fnOf "inner_marks" "inner_marks" (defArgs s_inner_marks) (defBody s_inner_marks) (defScope s_inner_marks) .none kV11 dc11 pm11 an11 cd11 ct11), sl11⟩)
    (co11 : PySem.W.codeIn K cd11 "inner_marks" = true)
    (k11 : PySem.W.keepIn K (.ref f11) = true)
    (a12 : PySem.W.nsIn K mainGlobals "mark_fault" = some (some (.ref f12)))
    (l12 : K.lookup f12 = some ⟨oc12, od12, .func (PySem.W.fnOf "mark_fault" "mark_fault" (defArgs s_mark_fault) (defBody s_mark_fault) (defScope s_mark_fault) .none kV12 dc12 pm12 an12 cd12 ct12), sl12⟩)
    (co12 : PySem.W.codeIn K cd12 "mark_fault" = true)
    (k12 : PySem.W.keepIn K (.ref f12) = true)
    (a13 : PySem.W.nsIn K mainGlobals "mark_ends" = some (some (.ref f13)))
    (l13 : K.lookup f13 = some ⟨oc13, od13, .func (PySem.W.fnOf "mark_ends" "mark_ends" (defArgs s_mark_ends) (defBody s_mark_ends) (defScope s_mark_ends) .none kV13 dc13 pm13 an13 cd13 ct13), sl13⟩)
    (co13 : PySem.W.codeIn K cd13 "mark_ends" = true)
    (k13 : PySem.W.keepIn K (.ref f13) = true)
    (a14 : PySem.W.nsIn K mainGlobals "_law_is_integer" = some (some (.ref f14)))
    (l14 : K.lookup f14 = some ⟨oc14, od14, .func (PySem.W.fnOf "_law_is_integer" "_law_is_integer" (defArgs s__law_is_integer) (defBody s__law_is_integer) (defScope s__law_is_integer) .none kV14 dc14 pm14 an14 cd14 ct14), sl14⟩)
    (co14 : PySem.W.codeIn K cd14 "_law_is_integer" = true)
    (k14 : PySem.W.keepIn K (.ref f14) = true)
    (a15 : PySem.W.nsIn K mainGlobals "_law_numbers" = some (some (.ref f15)))
    (l15 : K.lookup f15 = some ⟨oc15, od15, .func (PySem.W.fnOf "_law_numbers" "_law_numbers" (defArgs s__law_numbers) (defBody s__law_numbers) (defScope s__law_numbers) .none kV15 dc15 pm15 an15 cd15 ct15), sl15⟩)
    (co15 : PySem.W.codeIn K cd15 "_law_numbers" = true)
    (k15 : PySem.W.keepIn K (.ref f15) = true)
    (a16 : PySem.W.nsIn K mainGlobals "_law_ends" = some (some (.ref f16)))
    (l16 : K.lookup f16 = some ⟨oc16, od16, .func (PySem.W.fnOf "_law_ends" "_law_ends" (defArgs s__law_ends) (defBody s__law_ends) (defScope s__law_ends) .none kV16 dc16 pm16 an16 cd16 ct16), sl16⟩)
    (co16 : PySem.W.codeIn K cd16 "_law_ends" = true)
    (k16 : PySem.W.keepIn K (.ref f16) = true)
    (a17 : PySem.W.nsIn K mainGlobals "wipe_plan" = some (some (.ref f17)))
    (l17 : K.lookup f17 = some ⟨oc17, od17, .func (PySem.W.fnOf "wipe_plan" "wipe_plan" (defArgs s_wipe_plan) (defBody s_wipe_plan) (defScope s_wipe_plan) .none kV17 dc17 pm17 an17 cd17 ct17), sl17⟩)
    (co17 : PySem.W.codeIn K cd17 "wipe_plan" = true)
    (k17 : PySem.W.keepIn K (.ref f17) = true)
    (a18 : PySem.W.nsIn K mainGlobals "_law_plan" = some (some (.ref f18)))
    (l18 : K.lookup f18 = some ⟨oc18, od18, .func (PySem.W.fnOf "_law_plan" "_law_plan" (defArgs s__law_plan) (defBody s__law_plan) (defScope s__law_plan) .none kV18 dc18 pm18 an18 cd18 ct18), sl18⟩)
    (co18 : PySem.W.codeIn K cd18 "_law_plan" = true)
    (k18 : PySem.W.keepIn K (.ref f18) = true)
    (a19 : PySem.W.nsIn K mainGlobals "_law_wipers" = some (some (.ref f19)))
    (l19 : K.lookup f19 = some ⟨oc19, od19, .func (PySem.W.fnOf "_law_wipers" "_law_wipers" (defArgs s__law_wipers) (defBody s__law_wipers) (defScope s__law_wipers) .none kV19 dc19 pm19 an19 cd19 ct19), sl19⟩)
    (co19 : PySem.W.codeIn K cd19 "_law_wipers" = true)
    (k19 : PySem.W.keepIn K (.ref f19) = true)
    (a20 : PySem.W.nsIn K mainGlobals "_law_left" = some (some (.ref f20)))
    (l20 : K.lookup f20 = some ⟨oc20, od20, .func (PySem.W.fnOf "_law_left" "_law_left" (defArgs s__law_left) (defBody s__law_left) (defScope s__law_left) .none kV20 dc20 pm20 an20 cd20 ct20), sl20⟩)
    (co20 : PySem.W.codeIn K cd20 "_law_left" = true)
    (k20 : PySem.W.keepIn K (.ref f20) = true)
    (a21 : PySem.W.nsIn K mainGlobals "_law_end_left" = some (some (.ref f21)))
    (l21 : K.lookup f21 = some ⟨oc21, od21, .func (PySem.W.fnOf "_law_end_left" "_law_end_left" (defArgs s__law_end_left) (defBody s__law_end_left) (defScope s__law_end_left) .none kV21 dc21 pm21 an21 cd21 ct21), sl21⟩)
    (co21 : PySem.W.codeIn K cd21 "_law_end_left" = true)
    (k21 : PySem.W.keepIn K (.ref f21) = true)
    (a22 : PySem.W.nsIn K mainGlobals "_law_play" = some (some (.ref f22)))
    (l22 : K.lookup f22 = some ⟨oc22, od22, .func (PySem.W.fnOf "_law_play" "_law_play" (defArgs s__law_play) (defBody s__law_play) (defScope s__law_play) .none kV22 dc22 pm22 an22 cd22 ct22), sl22⟩)
    (co22 : PySem.W.codeIn K cd22 "_law_play" = true)
    (k22 : PySem.W.keepIn K (.ref f22) = true)
    (a23 : PySem.W.findIn K (.ref c_Marks) "__len__" = some (some (.ref f23)))
    (l23 : K.lookup f23 = some ⟨oc23, od23, .func (PySem.W.fnOf "__len__" "Marks.__len__" (defArgs s_Marks___len__) (defBody s_Marks___len__) (defScope s_Marks___len__) .none kV23 dc23 pm23 an23 cd23 ct23), sl23⟩)
    (co23 : PySem.W.codeIn K cd23 "Marks.__len__" = true)
    (k23 : PySem.W.keepIn K (.ref f23) = true)
    (a24 : PySem.W.nsIn K mainGlobals "_law_is_marks" = some (some (.ref f24)))
    (l24 : K.lookup f24 = some ⟨oc24, od24, .func (PySem.W.fnOf "_law_is_marks" "_law_is_marks" (defArgs s__law_is_marks) (defBody s__law_is_marks) (defScope s__law_is_marks) .none kV24 dc24 pm24 an24 cd24 ct24), sl24⟩)
    (co24 : PySem.W.codeIn K cd24 "_law_is_marks" = true)
    (k24 : PySem.W.keepIn K (.ref f24) = true)
    (a25 : PySem.W.nsIn K mainGlobals "law" = some (some (.ref f25)))
    (l25 : K.lookup f25 = some ⟨oc25, od25, .func (PySem.W.fnOf "law" "law" (defArgs s_law) (defBody s_law) (defScope s_law) .none kV25 dc25 pm25 an25 cd25 ct25), sl25⟩)
    (co25 : PySem.W.codeIn K cd25 "law" = true)
    (k25 : PySem.W.keepIn K (.ref f25) = true)
    (a26 : PySem.W.findIn K (.ref c_BadMarks) "__init__" = some (some (.ref f26)))
    (l26 : K.lookup f26 = some ⟨oc26, od26, .func (PySem.W.fnOf "__init__" "BadMarks.__init__" (defArgs s_BadMarks___init__) (defBody s_BadMarks___init__) (defScope s_BadMarks___init__) .none kV26 dc26 pm26 an26 cd26 ct26), sl26⟩)
    (co26 : PySem.W.codeIn K cd26 "BadMarks.__init__" = true)
    (k26 : PySem.W.keepIn K (.ref f26) = true)
    (a27 : PySem.W.findIn K (.ref c_BadCut) "__init__" = some (some (.ref f27)))
    (l27 : K.lookup f27 = some ⟨oc27, od27, .func (PySem.W.fnOf "__init__" "BadCut.__init__" (defArgs s_BadCut___init__) (defBody s_BadCut___init__) (defScope s_BadCut___init__) .none kV27 dc27 pm27 an27 cd27 ct27), sl27⟩)
    (co27 : PySem.W.codeIn K cd27 "BadCut.__init__" = true)
    (k27 : PySem.W.keepIn K (.ref f27) = true)
    (a28 : PySem.W.findIn K (.ref c_NoEnd) "__init__" = some (some (.ref f28)))
    (l28 : K.lookup f28 = some ⟨oc28, od28, .func (PySem.W.fnOf "__init__" "NoEnd.__init__" (defArgs s_NoEnd___init__) (defBody s_NoEnd___init__) (defScope s_NoEnd___init__) .none kV28 dc28 pm28 an28 cd28 ct28), sl28⟩)
    (co28 : PySem.W.codeIn K cd28 "NoEnd.__init__" = true)
    (k28 : PySem.W.keepIn K (.ref f28) = true)
    (a29 : PySem.W.findIn K (.ref c_Marks) "__iter__" = some (some (.ref f29)))
    (l29 : K.lookup f29 = some ⟨oc29, od29, .func (PySem.W.fnOf "__iter__" "Marks.__iter__" (defArgs s_Marks___iter__) (defBody s_Marks___iter__) (defScope s_Marks___iter__) .none kV29 dc29 pm29 an29 cd29 ct29), sl29⟩)
    (co29 : PySem.W.codeIn K cd29 "Marks.__iter__" = true)
    (k29 : PySem.W.keepIn K (.ref f29) = true)
    (z_bool : PySem.W.nsIn K mainGlobals "bool" = some none)
    (z_int : PySem.W.nsIn K mainGlobals "int" = some none)
    (z_isinstance : PySem.W.nsIn K mainGlobals "isinstance" = some none)
    (z_iter : PySem.W.nsIn K mainGlobals "iter" = some none)
    (z_len : PySem.W.nsIn K mainGlobals "len" = some none)
    (z_list : PySem.W.nsIn K mainGlobals "list" = some none)
    (z_max : PySem.W.nsIn K mainGlobals "max" = some none)
    (z_min : PySem.W.nsIn K mainGlobals "min" = some none)
    (z_range : PySem.W.nsIn K mainGlobals "range" = some none)
    (z_set : PySem.W.nsIn K mainGlobals "set" = some none)
    (z_sorted : PySem.W.nsIn K mainGlobals "sorted" = some none)
    (z_sum : PySem.W.nsIn K mainGlobals "sum" = some none)
    (z_tuple : PySem.W.nsIn K mainGlobals "tuple" = some none)
    (pg_Marks : PySem.W.plainGet K c_Marks Str.empty = true)
    (hd_Marks : PySem.W.hasDictIn K c_Marks = true)
    (po_Marks : PySem.W.plainOver K c_Marks = true)
    (sa_Marks : PySem.W.findIn K (.ref c_Marks) "__setattr__" = some (some (.builtin "object.__setattr__")))
    (mk_Marks : PySem.W.makesIn K c_Marks = true)
    (kc_Marks : PySem.W.keepIn K (.ref c_Marks) = true)
    (fn_Marks : PySem.W.isFn K (.ref f5) = true)
    (cc_Marks : PySem.W.findIn K (.ref c_Marks) "__class__" = some (some (.builtin "object.__class__")))
    (mr_Marks : PySem.W.mroIn K c_Marks (.type "object") = some true)
    (sp_ : PySem.W.specialIn K (.builtin "object.__class__") "__get__" = some (some (.builtin "getset_descriptor.__get__")))
    (tk_ : PySem.W.takesIn K (.builtin "object.__class__") = some true)
    (xn_BadMarks_place : PySem.W.findIn K (.ref c_BadMarks) "place" = some none)
    (na_Marks_size : PySem.W.findIn K (.ref c_Marks) "size" = some none)
    (na_Marks_places : PySem.W.findIn K (.ref c_Marks) "places" = some none)
    (na_Marks_gaps : PySem.W.findIn K (.ref c_Marks) "gaps" = some none)
    (xn_BadCut_cut : PySem.W.findIn K (.ref c_BadCut) "cut" = some none)
    (xn_NoEnd_reason : PySem.W.findIn K (.ref c_NoEnd) "reason" = some none)
    (fn_Marks___len__ : PySem.W.isFn K (.ref f23) = true)
    (fn_Marks___iter__ : PySem.W.isFn K (.ref f29) = true)
    (xL_BadMarks : K.lookup c_BadMarks = some (excClassObj nm_BadMarks q_BadMarks c_BadMarks N_BadMarks bs_BadMarks bm_BadMarks true sn_BadMarks sub_BadMarks ab_BadMarks col_BadMarks dd_BadMarks m0_BadMarks m1_BadMarks m2_BadMarks m3_BadMarks m5_BadMarks "ValueError.__new__"))
    (rv_BadMarks : PySem.HandSPX.refsVE bm_BadMarks = true)
    (xs_BadMarks : PySem.W.findIn K (.ref c_BadMarks) "__setattr__" = some (some (.builtin "object.__setattr__")))
    (xg_BadMarks : PySem.W.findIn K (.ref c_BadMarks) "__getattribute__" = some (some (.builtin "BaseException.__getattribute__")))
    (xh_BadMarks : PySem.W.findIn K (.ref c_BadMarks) "__getattr__" = some none)
    (xi_BadMarks : PySem.W.findIn K (.ref c_BadMarks) "__init__" = some (some (.ref f26)))
    (xt_BadMarks : PySem.W.typeIn K (.ref f26) = some (.type "function"))
    (xk_BadMarks : PySem.W.keepIn K (.ref c_BadMarks) = true)
    (xe_BadMarks : PySem.W.subIn K (.ref c_BadMarks) (.type "BaseException") = some true)
    (xy_BadMarks : PySem.W.typeIn K (.ref c_BadMarks) = some (.type "type"))
    (xd_BadMarks : PySem.W.hasDictIn K c_BadMarks = true)
    (xc_BadMarks : PySem.W.isClsIn K c_BadMarks = true)
    (xq_BadMarks : PySem.W.subIn K (.ref c_BadMarks) (.ref c_BadMarks) = some true)
    (xL_BadCut : K.lookup c_BadCut = some (excClassObj nm_BadCut q_BadCut c_BadCut N_BadCut bs_BadCut bm_BadCut true sn_BadCut sub_BadCut ab_BadCut col_BadCut dd_BadCut m0_BadCut m1_BadCut m2_BadCut m3_BadCut m5_BadCut "ValueError.__new__"))
    (rv_BadCut : PySem.HandSPX.refsVE bm_BadCut = true)
    (xs_BadCut : PySem.W.findIn K (.ref c_BadCut) "__setattr__" = some (some (.builtin "object.__setattr__")))
    (xg_BadCut : PySem.W.findIn K (.ref c_BadCut) "__getattribute__" = some (some (.builtin "BaseException.__getattribute__")))
    (xh_BadCut : PySem.W.findIn K (.ref c_BadCut) "__getattr__" = some none)
    (xi_BadCut : PySem.W.findIn K (.ref c_BadCut) "__init__" = some (some (.ref f27)))
    (xt_BadCut : PySem.W.typeIn K (.ref f27) = some (.type "function"))
    (xk_BadCut : PySem.W.keepIn K (.ref c_BadCut) = true)
    (xe_BadCut : PySem.W.subIn K (.ref c_BadCut) (.type "BaseException") = some true)
    (xy_BadCut : PySem.W.typeIn K (.ref c_BadCut) = some (.type "type"))
    (xd_BadCut : PySem.W.hasDictIn K c_BadCut = true)
    (xc_BadCut : PySem.W.isClsIn K c_BadCut = true)
    (xq_BadCut : PySem.W.subIn K (.ref c_BadCut) (.ref c_BadCut) = some true)
    (xL_NoEnd : K.lookup c_NoEnd = some (excClassObj nm_NoEnd q_NoEnd c_NoEnd N_NoEnd bs_NoEnd bm_NoEnd true sn_NoEnd sub_NoEnd ab_NoEnd col_NoEnd dd_NoEnd m0_NoEnd m1_NoEnd m2_NoEnd m3_NoEnd m5_NoEnd "ValueError.__new__"))
    (rv_NoEnd : PySem.HandSPX.refsVE bm_NoEnd = true)
    (xs_NoEnd : PySem.W.findIn K (.ref c_NoEnd) "__setattr__" = some (some (.builtin "object.__setattr__")))
    (xg_NoEnd : PySem.W.findIn K (.ref c_NoEnd) "__getattribute__" = some (some (.builtin "BaseException.__getattribute__")))
    (xh_NoEnd : PySem.W.findIn K (.ref c_NoEnd) "__getattr__" = some none)
    (xi_NoEnd : PySem.W.findIn K (.ref c_NoEnd) "__init__" = some (some (.ref f28)))
    (xt_NoEnd : PySem.W.typeIn K (.ref f28) = some (.type "function"))
    (xk_NoEnd : PySem.W.keepIn K (.ref c_NoEnd) = true)
    (xe_NoEnd : PySem.W.subIn K (.ref c_NoEnd) (.type "BaseException") = some true)
    (xy_NoEnd : PySem.W.typeIn K (.ref c_NoEnd) = some (.type "type"))
    (xd_NoEnd : PySem.W.hasDictIn K c_NoEnd = true)
    (xc_NoEnd : PySem.W.isClsIn K c_NoEnd = true)
    (xq_NoEnd : PySem.W.subIn K (.ref c_NoEnd) (.ref c_NoEnd) = some true)
    : ∃ fd : FuncData, (∀ (s : Shared) (v : Value), BindsTo s fd ⟨[v], []⟩ [("script", v)]) ∧ ∀ base : Heap, K.In base → base.Ns mainGlobals mg → FnOk l.prog w K mg base (L2N.CX l.prog w) 9 fa0 fd ["script"] (spLaw K) := by
  have e := hfa.symm.trans (PySem.W.mg_of X G a25)
  cases e
  have F0 := fun_mk (st := s__law_cell) l0 co0 k0
  have b0 := F0.binds (ps := ["script", "k"]) fun _ _ _ _ _ _ us hl => match us, hl with | [_, _], _ => rfl
  have F1 := fun_mk (st := s__law_draws) l1 co1 k1
  have b1 := F1.binds (ps := ["cell", "sizes"]) fun _ _ _ _ _ _ us hl => match us, hl with | [_, _], _ => rfl
  have F2 := fun_mk (st := s__law_places) l2 co2 k2
  have b2 := F2.binds (ps := ["cell", "size"]) fun _ _ _ _ _ _ us hl => match us, hl with | [_, _], _ => rfl
  have F3 := fun_mk (st := s__law_marks) l3 co3 k3
  have b3 := F3.binds (ps := ["script"]) fun _ _ _ _ _ _ us hl => match us, hl with | [_], _ => rfl
  have F4 := fun_mk (st := s_gaps_between) l4 co4 k4
  have b4 := F4.binds (ps := ["places", "size"]) fun _ _ _ _ _ _ us hl => match us, hl with | [_, _], _ => rfl
  have F5 := fun_mk (st := s_Marks___init__) l5 co5 k5
  have b5 := F5.binds (ps := ["self", "size", "places"]) fun _ _ _ _ _ _ us hl => match us, hl with | [_, _, _], _ => rfl
  have F6 := fun_mk (st := s__law_even) l6 co6 k6
  have b6 := F6.binds (ps := ["size", "places"]) fun _ _ _ _ _ _ us hl => match us, hl with | [_, _], _ => rfl
  have F7 := fun_mk (st := s__law_gaps) l7 co7 k7
  have b7 := F7.binds (ps := ["places", "size"]) fun _ _ _ _ _ _ us hl => match us, hl with | [_, _], _ => rfl
  have F8 := fun_mk (st := s__law_can_be_had) l8 co8 k8
  have b8 := F8.binds (ps := ["size", "places", "cut"]) fun _ _ _ _ _ _ us hl => match us, hl with | [_, _, _], _ => rfl
  have F9 := fun_mk (st := s_is_spaced) l9 co9 k9
  have b9 := F9.binds (ps := ["marks", "cut"]) fun _ _ _ _ _ _ us hl => match us, hl with | [_, _], _ => rfl
  have F10 := fun_mk (st := s_check_end) l10 co10 k10
  have b10 := F10.binds (ps := ["marks", "end"]) fun _ _ _ _ _ _ us hl => match us, hl with | [_, _], _ => rfl
  have F11 := fun_mk (st := s_inner_marks) l11 co11 k11
  have b11 := F11.binds (ps := ["marks", "cut"]) fun _ _ _ _ _ _ us hl => match us, hl with | [_, _], _ => rfl
  have F12 := fun_mk (st := s_mark_fault) l12 co12 k12
  have b12 := F12.binds (ps := ["marks", "end"]) fun _ _ _ _ _ _ us hl => match us, hl with | [_, _], _ => rfl
  have F13 := fun_mk (st := s_mark_ends) l13 co13 k13
  have b13 := F13.binds (ps := ["marks"]) fun _ _ _ _ _ _ us hl => match us, hl with | [_], _ => rfl
  have F14 := fun_mk (st := s__law_is_integer) l14 co14 k14
  have b14 := F14.binds (ps := ["actual"]) fun _ _ _ _ _ _ us hl => match us, hl with | [_], _ => rfl
  have F15 := fun_mk (st := s__law_numbers) l15 co15 k15
  have b15 := F15.binds (ps := ["actual", "due", "as_tuple"]) fun _ _ _ _ _ _ us hl => match us, hl with | [_, _, _], _ => rfl
  have F16 := fun_mk (st := s__law_ends) l16 co16 k16
  have b16 := F16.binds (ps := ["told"]) fun _ _ _ _ _ _ us hl => match us, hl with | [_], _ => rfl
  have F17 := fun_mk (st := s_wipe_plan) l17 co17 k17
  have b17 := F17.binds (ps := ["marks", "end"]) fun _ _ _ _ _ _ us hl => match us, hl with | [_, _], _ => rfl
  have F18 := fun_mk (st := s__law_plan) l18 co18 k18
  have b18 := F18.binds (ps := ["marks", "end"]) fun _ _ _ _ _ _ us hl => match us, hl with | [_, _], _ => rfl
  have F19 := fun_mk (st := s__law_wipers) l19 co19 k19
  have b19 := F19.binds (ps := ["places", "size"]) fun _ _ _ _ _ _ us hl => match us, hl with | [_, _], _ => rfl
  have F20 := fun_mk (st := s__law_left) l20 co20 k20
  have b20 := F20.binds (ps := ["places", "place"]) fun _ _ _ _ _ _ us hl => match us, hl with | [_, _], _ => rfl
  have F21 := fun_mk (st := s__law_end_left) l21 co21 k21
  have b21 := F21.binds (ps := ["marks", "size", "places", "end"]) fun _ _ _ _ _ _ us hl => match us, hl with | [_, _, _, _], _ => rfl
  have F22 := fun_mk (st := s__law_play) l22 co22 k22
  have b22 := F22.binds (ps := ["cell", "size", "places"]) fun _ _ _ _ _ _ us hl => match us, hl with | [_, _, _], _ => rfl
  have F23 := fun_mk (st := s_Marks___len__) l23 co23 k23
  have b23 := F23.binds (ps := ["self"]) fun _ _ _ _ _ _ us hl => match us, hl with | [_], _ => rfl
  have F24 := fun_mk (st := s__law_is_marks) l24 co24 k24
  have b24 := F24.binds (ps := ["actual", "size", "places"]) fun _ _ _ _ _ _ us hl => match us, hl with | [_, _, _], _ => rfl
  have F25 := fun_mk (st := s_law) l25 co25 k25
  have b25 := F25.binds (ps := ["script"]) fun _ _ _ _ _ _ us hl => match us, hl with | [_], _ => rfl
  have F26 := fun_mk (st := s_BadMarks___init__) l26 co26 k26
  have b26 := F26.binds (ps := ["self", "place"]) fun _ _ _ _ _ _ us hl => match us, hl with | [_, _], _ => rfl
  have F27 := fun_mk (st := s_BadCut___init__) l27 co27 k27
  have b27 := F27.binds (ps := ["self", "cut"]) fun _ _ _ _ _ _ us hl => match us, hl with | [_, _], _ => rfl
  have F28 := fun_mk (st := s_NoEnd___init__) l28 co28 k28
  have b28 := F28.binds (ps := ["self", "reason"]) fun _ _ _ _ _ _ us hl => match us, hl with | [_, _], _ => rfl
  have F29 := fun_mk (st := s_Marks___iter__) l29 co29 k29
  have b29 := F29.binds (ps := ["self"]) fun _ _ _ _ _ _ us hl => match us, hl with | [_], _ => rfl
  have T : Tx K mg (caL [("BadMarks", c_BadMarks), ("Marks", c_Marks), ("BadCut", c_BadCut), ("RetinueError", c_RetinueError), ("NoEnd", c_NoEnd)]) (faL [f0, f1, f2, f3, f4, f5, f6, f7, f8, f9, f10, f11, f12, f13, f14, f15, f16, f17, f18, f19, f20, f21, f22, f23, f24, fa0, f26, f27, f28, f29]) (fdL F25 [_, _, _, _, _, _, _, _, _, _, _, _, _, _, _, _, _, _, _, _, _, _, _, _, _, _, _, _, _, _]) := {
    F__law_cell := F0
    b__law_cell := b0
    g__law_cell := PySem.W.mg_of X G a0
    k__law_cell := k0
    F__law_draws := F1
    b__law_draws := b1
    g__law_draws := PySem.W.mg_of X G a1
    k__law_draws := k1
    F__law_places := F2
    b__law_places := b2
    g__law_places := PySem.W.mg_of X G a2
    k__law_places := k2
    F__law_marks := F3
    b__law_marks := b3
    g__law_marks := PySem.W.mg_of X G a3
    k__law_marks := k3
    F_gaps_between := F4
    b_gaps_between := b4
    g_gaps_between := PySem.W.mg_of X G a4
    k_gaps_between := k4
    F_Marks___init__ := F5
    b_Marks___init__ := b5
    F__law_even := F6
    b__law_even := b6
    g__law_even := PySem.W.mg_of X G a6
    k__law_even := k6
    F__law_gaps := F7
    b__law_gaps := b7
    g__law_gaps := PySem.W.mg_of X G a7
    k__law_gaps := k7
    F__law_can_be_had := F8
    b__law_can_be_had := b8
    g__law_can_be_had := PySem.W.mg_of X G a8
    k__law_can_be_had := k8
    F_is_spaced := F9
    b_is_spaced := b9
    g_is_spaced := PySem.W.mg_of X G a9
    k_is_spaced := k9
    F_check_end := F10
    b_check_end := b10
    g_check_end := PySem.W.mg_of X G a10
    k_check_end := k10
    F_inner_marks := F11
    b_inner_marks := b11
    g_inner_marks := PySem.W.mg_of X G a11
    k_inner_marks := k11
    F_mark_fault := F12
    b_mark_fault := b12
    g_mark_fault := PySem.W.mg_of X G a12
    k_mark_fault := k12
    F_mark_ends := F13
    b_mark_ends := b13
    g_mark_ends := PySem.W.mg_of X G a13
    k_mark_ends := k13
    F__law_is_integer := F14
    b__law_is_integer := b14
    g__law_is_integer := PySem.W.mg_of X G a14
    k__law_is_integer := k14
    F__law_numbers := F15
    b__law_numbers := b15
    g__law_numbers := PySem.W.mg_of X G a15
    k__law_numbers := k15
    F__law_ends := F16
    b__law_ends := b16
    g__law_ends := PySem.W.mg_of X G a16
    k__law_ends := k16
    F_wipe_plan := F17
    b_wipe_plan := b17
    g_wipe_plan := PySem.W.mg_of X G a17
    k_wipe_plan := k17
    F__law_plan := F18
    b__law_plan := b18
    g__law_plan := PySem.W.mg_of X G a18
    k__law_plan := k18
    F__law_wipers := F19
    b__law_wipers := b19
    g__law_wipers := PySem.W.mg_of X G a19
    k__law_wipers := k19
    F__law_left := F20
    b__law_left := b20
    g__law_left := PySem.W.mg_of X G a20
    k__law_left := k20
    F__law_end_left := F21
    b__law_end_left := b21
    g__law_end_left := PySem.W.mg_of X G a21
    k__law_end_left := k21
    F__law_play := F22
    b__law_play := b22
    g__law_play := PySem.W.mg_of X G a22
    k__law_play := k22
    F_Marks___len__ := F23
    b_Marks___len__ := b23
    F__law_is_marks := F24
    b__law_is_marks := b24
    g__law_is_marks := PySem.W.mg_of X G a24
    k__law_is_marks := k24
    F_law := F25
    b_law := b25
    F_BadMarks___init__ := F26
    b_BadMarks___init__ := b26
    F_BadCut___init__ := F27
    b_BadCut___init__ := b27
    F_NoEnd___init__ := F28
    b_NoEnd___init__ := b28
    F_Marks___iter__ := F29
    b_Marks___iter__ := b29
    n_len := PySem.W.mg_none_of X G z_len
    n_int := PySem.W.mg_none_of X G z_int
    n_range := PySem.W.mg_none_of X G z_range
    n_sorted := PySem.W.mg_none_of X G z_sorted
    n_set := PySem.W.mg_none_of X G z_set
    n_min := PySem.W.mg_none_of X G z_min
    n_sum := PySem.W.mg_none_of X G z_sum
    n_list := PySem.W.mg_none_of X G z_list
    x_BadMarks := ⟨⟨⟨_, _, _, _, bm_BadMarks, _, _, _, _, _, _, _, _, _, _, xL_BadMarks, rv_BadMarks⟩, xs_BadMarks, xe_BadMarks, xy_BadMarks, xk_BadMarks⟩, ⟨xg_BadMarks, xh_BadMarks, xe_BadMarks, xd_BadMarks⟩, xi_BadMarks, xt_BadMarks, PySem.W.mg_of X G aC_BadMarks, PySem.W.exm_ref xe_BadMarks xd_BadMarks xy_BadMarks xq_BadMarks⟩
    xb_BadMarks := b26
    xn_BadMarks_place := xn_BadMarks_place
    cl_Marks := ⟨pg_Marks, hd_Marks, po_Marks, sa_Marks⟩
    na_Marks_size := na_Marks_size
    n_tuple := PySem.W.mg_none_of X G z_tuple
    na_Marks_places := na_Marks_places
    na_Marks_gaps := na_Marks_gaps
    mk_Marks := ⟨mk_Marks, a5, fn_Marks, kc_Marks⟩
    kb0_Marks := kb_all b5
    n_max := PySem.W.mg_none_of X G z_max
    x_BadCut := ⟨⟨⟨_, _, _, _, bm_BadCut, _, _, _, _, _, _, _, _, _, _, xL_BadCut, rv_BadCut⟩, xs_BadCut, xe_BadCut, xy_BadCut, xk_BadCut⟩, ⟨xg_BadCut, xh_BadCut, xe_BadCut, xd_BadCut⟩, xi_BadCut, xt_BadCut, PySem.W.mg_of X G aC_BadCut, PySem.W.exm_ref xe_BadCut xd_BadCut xy_BadCut xq_BadCut⟩
    xb_BadCut := b27
    xn_BadCut_cut := xn_BadCut_cut
    n_isinstance := PySem.W.mg_none_of X G z_isinstance
    n_bool := PySem.W.mg_none_of X G z_bool
    x_NoEnd := ⟨⟨⟨_, _, _, _, bm_NoEnd, _, _, _, _, _, _, _, _, _, _, xL_NoEnd, rv_NoEnd⟩, xs_NoEnd, xe_NoEnd, xy_NoEnd, xk_NoEnd⟩, ⟨xg_NoEnd, xh_NoEnd, xe_NoEnd, xd_NoEnd⟩, xi_NoEnd, xt_NoEnd, PySem.W.mg_of X G aC_NoEnd, PySem.W.exm_ref xe_NoEnd xd_NoEnd xy_NoEnd xq_NoEnd⟩
    xb_NoEnd := b28
    xn_NoEnd_reason := xn_NoEnd_reason
    is_Marks := ⟨⟨pg_Marks, hd_Marks, po_Marks, sa_Marks⟩, cc_Marks, sp_, tk_, mr_Marks⟩
    m_Marks___len__ := ⟨a23, fn_Marks___len__, k23⟩
    m_Marks___iter__ := ⟨a29, fn_Marks___iter__, k29⟩
    n_iter := PySem.W.mg_none_of X G z_iter
    g_Marks := PySem.W.mg_of X G aC_Marks
    gB_RetinueError := PySem.W.mg_of X G aC_RetinueError
  }
  exact ⟨_, fun s v => .of_eq rfl, fun base _ _ => law_end (ok_law T) law_true⟩
end DL
open PySem PySem.W PyProof.Rows
set_option maxHeartbeats 0 in
theorem PySem.Challenge.cw_retinue_k49_whole_mark_ends_holds : PySem.Challenge.rw_retinue_k49_whole_mark_ends.Holds := by
  w_on; o_law; k_head; (case hw => w_witness2)
  k_fill
  refine L2.walk_of (l := PySem.Challenge.rw_retinue_k49_whole_mark_ends) (n := 63) (k := 9) (x := "script") (CX := fun w => L2N.CX PySem.Challenge.pw_retinue_k49_whole_mark_ends w) (sp := fun w => DL.spLaw _) rfl (by decide) rfl ⟨rfl, by decide, by decide⟩ (fun w h Y => PySem.W.kIn_of Y) ?F (fun _ _ a ns hl _ hS => ⟨a, ns, rfl, hS, hl, fun _ => rfl⟩) (fun _ _ _ _ _ h => DL.cx_end h)
  case F =>
    intro w mg fa h KX G hmg
    refine' DL.all_mk KX G hmg ?aC_BadMarks ?aC_Marks ?aC_BadCut ?aC_RetinueError ?aC_NoEnd ?a0 ?l0 ?co0 ?k0 ?a1 ?l1 ?co1 ?k1 ?a2 ?l2 ?co2 ?k2 ?a3 ?l3 ?co3 ?k3 ?a4 ?l4 ?co4 ?k4 ?a5 ?l5 ?co5 ?k5 ?a6 ?l6 ?co6 ?k6 ?a7 ?l7 ?co7 ?k7 ?a8 ?l8 ?co8 ?k8 ?a9 ?l9 ?co9 ?k9 ?a10 ?l10 ?co10 ?k10 ?a11 ?l11 ?co11 ?k11 ?a12 ?l12 ?co12 ?k12 ?a13 ?l13 ?co13 ?k13 ?a14 ?l14 ?co14 ?k14 ?a15 ?l15 ?co15 ?k15 ?a16 ?l16 ?co16 ?k16 ?a17 ?l17 ?co17 ?k17 ?a18 ?l18 ?co18 ?k18 ?a19 ?l19 ?co19 ?k19 ?a20 ?l20 ?co20 ?k20 ?a21 ?l21 ?co21 ?k21 ?a22 ?l22 ?co22 ?k22 ?a23 ?l23 ?co23 ?k23 ?a24 ?l24 ?co24 ?k24 ?a25 ?l25 ?co25 ?k25 ?a26 ?l26 ?co26 ?k26 ?a27 ?l27 ?co27 ?k27 ?a28 ?l28 ?co28 ?k28 ?a29 ?l29 ?co29 ?k29 ?z_bool ?z_int ?z_isinstance ?z_iter ?z_len ?z_list ?z_max ?z_min ?z_range ?z_set ?z_sorted ?z_sum ?z_tuple ?pg_Marks ?hd_Marks ?po_Marks ?sa_Marks ?mk_Marks ?kc_Marks ?fn_Marks ?cc_Marks ?mr_Marks ?sp_ ?tk_ ?xn_BadMarks_place ?na_Marks_size ?na_Marks_places ?na_Marks_gaps ?xn_BadCut_cut ?xn_NoEnd_reason ?fn_Marks___len__ ?fn_Marks___iter__ ?xL_BadMarks ?rv_BadMarks ?xs_BadMarks ?xg_BadMarks ?xh_BadMarks ?xi_BadMarks ?xt_BadMarks ?xk_BadMarks ?xe_BadMarks ?xy_BadMarks ?xd_BadMarks ?xc_BadMarks ?xq_BadMarks ?xL_BadCut ?rv_BadCut ?xs_BadCut ?xg_BadCut ?xh_BadCut ?xi_BadCut ?xt_BadCut ?xk_BadCut ?xe_BadCut ?xy_BadCut ?xd_BadCut ?xc_BadCut ?xq_BadCut ?xL_NoEnd ?rv_NoEnd ?xs_NoEnd ?xg_NoEnd ?xh_NoEnd ?xi_NoEnd ?xt_NoEnd ?xk_NoEnd ?xe_NoEnd ?xy_NoEnd ?xd_NoEnd ?xc_NoEnd ?xq_NoEnd
    (case aC_BadMarks => k_is)
    (case aC_Marks => k_is)
    (case aC_BadCut => k_is)
    (case aC_RetinueError => k_is)
    (case aC_NoEnd => k_is)
    (case a0 => k_is)
    (case l0 => k_is)
    (case co0 => k_is)
    (case k0 => k_is)
    (case a1 => k_is)
    (case l1 => k_is)
    (case co1 => k_is)
    (case k1 => k_is)
    (case a2 => k_is)
    (case l2 => k_is)
    (case co2 => k_is)
    (case k2 => k_is)
    (case a3 => k_is)
    (case l3 => k_is)
    (case co3 => k_is)
    (case k3 => k_is)
    (case a4 => k_is)
    (case l4 => k_is)
    (case co4 => k_is)
    (case k4 => k_is)
    (case a5 => k_is)
    (case l5 => k_is)
    (case co5 => k_is)
    (case k5 => k_is)
    (case a6 => k_is)
    (case l6 => k_is)
    (case co6 => k_is)
    (case k6 => k_is)
    (case a7 => k_is)
    (case l7 => k_is)
    (case co7 => k_is)
    (case k7 => k_is)
    (case a8 => k_is)
    (case l8 => k_is)
    (case co8 => k_is)
    (case k8 => k_is)
    (case a9 => k_is)
    (case l9 => k_is)
    (case co9 => k_is)
    (case k9 => k_is)
    (case a10 => k_is)
    (case l10 => k_is)
    (case co10 => k_is)
    (case k10 => k_is)
    (case a11 => k_is)
    (case l11 => k_is)
    (case co11 => k_is)
    (case k11 => k_is)
    (case a12 => k_is)
    (case l12 => k_is)
    (case co12 => k_is)
    (case k12 => k_is)
    (case a13 => k_is)
    (case l13 => k_is)
    (case co13 => k_is)
    (case k13 => k_is)
    (case a14 => k_is)
    (case l14 => k_is)
    (case co14 => k_is)
    (case k14 => k_is)
    (case a15 => k_is)
    (case l15 => k_is)
    (case co15 => k_is)
    (case k15 => k_is)
    (case a16 => k_is)
    (case l16 => k_is)
    (case co16 => k_is)
    (case k16 => k_is)
    (case a17 => k_is)
    (case l17 => k_is)
    (case co17 => k_is)
    (case k17 => k_is)
    (case a18 => k_is)
    (case l18 => k_is)
    (case co18 => k_is)
    (case k18 => k_is)
    (case a19 => k_is)
    (case l19 => k_is)
    (case co19 => k_is)
    (case k19 => k_is)
    (case a20 => k_is)
    (case l20 => k_is)
    (case co20 => k_is)
    (case k20 => k_is)
    (case a21 => k_is)
    (case l21 => k_is)
    (case co21 => k_is)
    (case k21 => k_is)
    (case a22 => k_is)
    (case l22 => k_is)
    (case co22 => k_is)
    (case k22 => k_is)
    (case a23 => k_is)
    (case l23 => k_is)
    (case co23 => k_is)
    (case k23 => k_is)
    (case a24 => k_is)
    (case l24 => k_is)
    (case co24 => k_is)
    (case k24 => k_is)
    (case a25 => k_is)
    (case l25 => k_is)
    (case co25 => k_is)
    (case k25 => k_is)
    (case a26 => k_is)
    (case l26 => k_is)
    (case co26 => k_is)
    (case k26 => k_is)
    (case a27 => k_is)
    (case l27 => k_is)
    (case co27 => k_is)
    (case k27 => k_is)
    (case a28 => k_is)
    (case l28 => k_is)
    (case co28 => k_is)
    (case k28 => k_is)
    (case a29 => k_is)
    (case l29 => k_is)
    (case co29 => k_is)
    (case k29 => k_is)
    (case z_bool => k_is)
    (case z_int => k_is)
    (case z_isinstance => k_is)
    (case z_iter => k_is)
    (case z_len => k_is)
    (case z_list => k_is)
    (case z_max => k_is)
    (case z_min => k_is)
    (case z_range => k_is)
    (case z_set => k_is)
    (case z_sorted => k_is)
    (case z_sum => k_is)
    (case z_tuple => k_is)
    (case pg_Marks => k_is)
    (case hd_Marks => k_is)
    (case po_Marks => k_is)
    (case sa_Marks => k_is)
    (case mk_Marks => k_is)
    (case kc_Marks => k_is)
    (case fn_Marks => k_is)
    (case cc_Marks => k_is)
    (case mr_Marks => k_is)
    (case sp_ => k_is)
    (case tk_ => k_is)
    (case xn_BadMarks_place => k_is)
    (case na_Marks_size => k_is)
    (case na_Marks_places => k_is)
    (case na_Marks_gaps => k_is)
    (case xn_BadCut_cut => k_is)
    (case xn_NoEnd_reason => k_is)
    (case fn_Marks___len__ => k_is)
    (case fn_Marks___iter__ => k_is)
    (case xL_BadMarks => k_is)
    (case rv_BadMarks => decide +kernel)
    (case xs_BadMarks => k_is)
    (case xg_BadMarks => k_is)
    (case xh_BadMarks => k_is)
    (case xi_BadMarks => k_is)
    (case xt_BadMarks => k_is)
    (case xk_BadMarks => k_is)
    (case xe_BadMarks => k_is)
    (case xy_BadMarks => k_is)
    (case xd_BadMarks => k_is)
    (case xc_BadMarks => k_is)
    (case xq_BadMarks => first | rfl | k_is)
    (case xL_BadCut => k_is)
    (case rv_BadCut => decide +kernel)
    (case xs_BadCut => k_is)
    (case xg_BadCut => k_is)
    (case xh_BadCut => k_is)
    (case xi_BadCut => k_is)
    (case xt_BadCut => k_is)
    (case xk_BadCut => k_is)
    (case xe_BadCut => k_is)
    (case xy_BadCut => k_is)
    (case xd_BadCut => k_is)
    (case xc_BadCut => k_is)
    (case xq_BadCut => first | rfl | k_is)
    (case xL_NoEnd => k_is)
    (case rv_NoEnd => decide +kernel)
    (case xs_NoEnd => k_is)
    (case xg_NoEnd => k_is)
    (case xh_NoEnd => k_is)
    (case xi_NoEnd => k_is)
    (case xt_NoEnd => k_is)
    (case xk_NoEnd => k_is)
    (case xe_NoEnd => k_is)
    (case xy_NoEnd => k_is)
    (case xd_NoEnd => k_is)
    (case xc_NoEnd => k_is)
    (case xq_NoEnd => first | rfl | k_is)

