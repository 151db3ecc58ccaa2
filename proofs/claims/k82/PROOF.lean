import PyProof.Rows.All
import HandS.ForMost
import HandS.ForExc
import HandS.TryMany
import HandS.ExcInit
import HandS.ExcField
import HandS.ExcIs
import HandS.IsInst
import HandS.Wide
import HandS.SortInts
import HandS.Style
import HandS.Flow
import HandS.TupAny
import HandS.TupLe
import HandS.Conv
import HandS.Zip
import HandS.Walk
import HandS.ExcOwn
import KE.KExcIs
import PyProof.WalksMore
import PyProof.SumWalkG
import PyProof.MinMaxWalk
import HandS.TupMul
import PySem.Challenge.RW_lastisdone_k82_queues_closed
set_option Elab.async false
set_option linter.all false
set_option maxRecDepth 100000
set_option maxHeartbeats 2000000
namespace Mw
open PySem L2

/-! ## data, slots, results -/
abbrev D := PyData
inductive Sl where
  | un
  | fro (d : D)
  | own (ds : List D)
  | bor (ds : List D)
  | exc (c : Nat) (f : Str) (p : D)
  | scr (ns : List Int)
inductive EV where
  | fro (d : D)
  | own (ds : List D)
  | var (i : Nat)
inductive Res (α : Type) where
  | ok (a : α)
  | exn (c : Nat) (f : Str) (p : D) (g : List Sl)
  | stuck
abbrev SM (α : Type) := List Sl → Res (α × List Sl)
def ret {α : Type} (a : α) : SM α := fun g => .ok (a, g)
def bnd {α β : Type} (m : SM α) (f : α → SM β) : SM β := fun g =>
  match m g with
  | .ok (a, g') => f a g'
  | .exn c x p g' => .exn c x p g'
  | .stuck => .stuck
def lift {α : Type} (o : Option α) : SM α := fun g => match o with
  | some a => .ok (a, g)
  | none => .stuck
def Post {α : Type} (ok : α → List Sl → Prop) (ex : Nat → Str → D → List Sl → Prop) : Res (α × List Sl) → Prop
  | .ok (a, g) => ok a g
  | .exn c f p g => ex c f p g
  | .stuck => False
theorem post_bnd {α β : Type} {m : SM α} {f : α → SM β} {g : List Sl} {ok : β → List Sl → Prop} {ex : Nat → Str → D → List Sl → Prop} :
    Post ok ex (bnd m f g) ↔ Post (fun a g' => Post ok ex (f a g')) ex (m g) := by
  unfold bnd
  cases m g with
  | ok a => obtain ⟨a, g'⟩ := a; exact Iff.rfl
  | exn c x p g' => exact Iff.rfl
  | stuck => exact Iff.rfl
theorem post_mono {α : Type} {ok ok' : α → List Sl → Prop} {ex ex' : Nat → Str → D → List Sl → Prop} {r : Res (α × List Sl)}
    (h : Post ok ex r) (h1 : ∀ a g, ok a g → ok' a g) (h2 : ∀ c f p g, ex c f p g → ex' c f p g) : Post ok' ex' r := by
  cases r with
  | ok a => obtain ⟨a, g'⟩ := a; exact h1 _ _ h
  | exn c x p g' => exact h2 _ _ _ _ h
  | stuck => exact h.elim
theorem post_lift {α : Type} {o : Option α} {g : List Sl} {ok : α → List Sl → Prop} {ex : Nat → Str → D → List Sl → Prop} (h : Post ok ex (lift o g)) : ∃ a, o = some a ∧ ok a g := by
  cases o with
  | none => exact h.elim
  | some a => exact ⟨a, rfl, h⟩

/-! ## heaps -/
theorem same_new {H : Hp} {p : Addr} {o : HO} (h : H p = none) : Same H (upd H p o) := fun b x e => by
  rw [upd_ne (ne_of_none e h)]; exact e
theorem same_upd2 {Z H : Hp} {p : Addr} {o : HO} (s : Same Z H) (z : Z p = none) : Same (upd Z p o) (upd H p o) := fun b x e => by
  by_cases hb : b = p
  · subst hb; rw [upd_same] at e ⊢; exact e
  · rw [upd_ne hb] at e ⊢; exact s b x e
theorem same_in {Z H : Hp} {p : Addr} {o : HO} (s : Same Z H) (h : H p = some o) : Same (upd Z p o) H := fun b x e => by
  by_cases hb : b = p
  · subst hb; rw [upd_same] at e; cases e; exact h
  · rw [upd_ne hb] at e; exact s b x e
theorem same_out {Z H : Hp} {p : Addr} {o : HO} (s : Same Z H) (z : Z p = none) : Same Z (upd H p o) := fun b x e => by
  rw [upd_ne (ne_of_none e z)]; exact s b x e
theorem seqT {K : PySem.W.Frag} {H H' : Hp} {a : Addr} {xs : List V} (e : Same H H') (h : SqT K H a xs) : SqT K H' a xs := by
  rcases h with h | h
  · left
    rcases h with h | ⟨o, h⟩
    · exact .inl (e _ _ h)
    · exact .inr ⟨o, e _ _ h⟩
  · exact .inr h
mutual
inductive Dq (K : PySem.W.Frag) (H : Hp) : V → D → Prop
  | non : Dq K H .non .none
  | bl (b : Bool) : Dq K H (.bl b) (.bool b)
  | int (i : Int) : Dq K H (.int i) (.int i)
  | str (x : Str) : Dq K H (.str x) (.str x)
  | lst {a : Addr} {xs : List V} {ds : List D} : H a = some (.lst xs) → DqAll K H xs ds → Dq K H (.ref a) (.list ds)
  | tup {a : Addr} {xs : List V} {ds : List D} : SqT K H a xs → DqAll K H xs ds → Dq K H (.ref a) (.tuple ds)
inductive DqAll (K : PySem.W.Frag) (H : Hp) : List V → List D → Prop
  | nil : DqAll K H [] []
  | cons {v : V} {vs : List V} {d : D} {ds : List D} : Dq K H v d → DqAll K H vs ds → DqAll K H (v :: vs) (d :: ds)
end
mutual
theorem dqD {K : PySem.W.Frag} {H : Hp} : ∀ {d : D} {v : V}, Dq K H v d → Dp K H v d
  | .none, _, h => by cases h; exact .non
  | .bool _, _, h => by cases h; exact .bl _
  | .int _, _, h => by cases h; exact .int _
  | .str _, _, h => by cases h; exact .str _
  | .list ds, _, h => by
    cases h with
    | lst hs ha => exact .lst (SqL.of hs) (dqAD ha)
  | .tuple ds, _, h => by
    cases h with
    | tup hs ha => exact .tup hs (dqAD ha)
  | .dict _, _, h => by cases h
theorem dqAD {K : PySem.W.Frag} {H : Hp} : ∀ {ds : List D} {vs : List V}, DqAll K H vs ds → DpAll K H vs ds
  | [], _, h => by cases h; exact .nil
  | d :: ds, _, h => by
    cases h with
    | cons h1 h2 => exact .cons (dqD h1) (dqAD h2)
end
mutual
theorem dpM {K : PySem.W.Frag} {H H' : Hp} (e : Same H H') : ∀ {d : D} {v : V}, Dq K H v d → Dq K H' v d
  | .none, _, h => by cases h; exact .non
  | .bool _, _, h => by cases h; exact .bl _
  | .int _, _, h => by cases h; exact .int _
  | .str _, _, h => by cases h; exact .str _
  | .list ds, _, h => by
    cases h with
    | lst hs ha => exact .lst (e _ _ hs) (dpAM e ha)
  | .tuple ds, _, h => by
    cases h with
    | tup hs ha => exact .tup (seqT e hs) (dpAM e ha)
  | .dict _, _, h => by cases h
theorem dpAM {K : PySem.W.Frag} {H H' : Hp} (e : Same H H') : ∀ {ds : List D} {vs : List V}, DqAll K H vs ds → DqAll K H' vs ds
  | [], _, h => by cases h; exact .nil
  | d :: ds, _, h => by
    cases h with
    | cons h1 h2 => exact .cons (dpM e h1) (dpAM e h2)
end
theorem dpA_len {K : PySem.W.Frag} {H : Hp} : ∀ {ds : List D} {vs : List V}, DqAll K H vs ds → vs.length = ds.length
  | [], _, h => by cases h; rfl
  | d :: ds, _, h => by
    cases h with
    | cons h1 h2 => rw [List.length_cons, List.length_cons, dpA_len h2]
theorem dpA_app {K : PySem.W.Frag} {H : Hp} : ∀ {ds es : List D} {vs ws : List V}, DqAll K H vs ds → DqAll K H ws es → DqAll K H (vs ++ ws) (ds ++ es)
  | [], _, _, _, h, h' => by cases h; exact h'
  | d :: ds, _, _, _, h, h' => by
    cases h with
    | cons h1 h2 => exact .cons h1 (dpA_app h2 h')
theorem dpA_get {K : PySem.W.Frag} {H : Hp} : ∀ {ds : List D} {vs : List V} {i : Nat} {d : D}, DqAll K H vs ds → ds[i]? = some d → ∃ v, vs[i]? = some v ∧ Dq K H v d
  | [], _, _, _, _, e => by simp at e
  | x :: ds, _, 0, d, h, e => by
    cases h with
    | cons h1 h2 =>
      have : x = d := Option.some.inj e
      subst this
      exact ⟨_, rfl, h1⟩
  | x :: ds, _, i + 1, d, h, e => by
    cases h with
    | cons h1 h2 =>
      obtain ⟨v, e1, r⟩ := dpA_get (i := i) (d := d) h2 (by simpa using e)
      exact ⟨v, by simpa using e1, r⟩
theorem dpA_gi {K : PySem.W.Frag} {H : Hp} {ds : List D} {vs : List V} {i : Nat} {v : V} (h : DqAll K H vs ds) (e : vs[i]? = some v) : ∃ d, ds[i]? = some d ∧ Dq K H v d := by
  have hl := dpA_len h
  obtain ⟨hi, _⟩ := List.getElem?_eq_some_iff.mp e
  have hd : i < ds.length := by omega
  obtain ⟨w, e1, r⟩ := dpA_get (d := ds[i]) h (List.getElem?_eq_getElem hd)
  rw [e] at e1; cases e1
  exact ⟨_, List.getElem?_eq_getElem hd, r⟩
theorem dpA_set {K : PySem.W.Frag} {H : Hp} {d : D} {v : V} (r : Dq K H v d) : ∀ {ds : List D} {vs : List V} (i : Nat), DqAll K H vs ds → DqAll K H (vs.set i v) (ds.set i d)
  | [], _, _, h => by cases h; exact .nil
  | x :: ds, _, 0, h => by
    cases h with
    | cons h1 h2 => exact .cons r h2
  | x :: ds, _, i + 1, h => by
    cases h with
    | cons h1 h2 => exact .cons h1 (dpA_set r i h2)
theorem dpA_take {K : PySem.W.Frag} {H : Hp} : ∀ {ds : List D} {vs : List V} (n : Nat), DqAll K H vs ds → DqAll K H (vs.take n) (ds.take n)
  | _, _, 0, _ => by rw [List.take_zero, List.take_zero]; exact .nil
  | [], _, _ + 1, h => by cases h; exact .nil
  | d :: ds, _, n + 1, h => by
    cases h with
    | cons h1 h2 => exact .cons h1 (dpA_take n h2)
theorem dpA_drop {K : PySem.W.Frag} {H : Hp} : ∀ {ds : List D} {vs : List V} (n : Nat), DqAll K H vs ds → DqAll K H (vs.drop n) (ds.drop n)
  | _, _, 0, h => h
  | [], _, _ + 1, h => by cases h; exact .nil
  | d :: ds, _, n + 1, h => by
    cases h with
    | cons h1 h2 => exact dpA_drop n h2
theorem dpA_rev {K : PySem.W.Frag} {H : Hp} : ∀ {ds : List D} {vs : List V}, DqAll K H vs ds → DqAll K H vs.reverse ds.reverse
  | [], _, h => by cases h; exact .nil
  | d :: ds, _, h => by
    cases h with
    | cons h1 h2 =>
      rw [List.reverse_cons, List.reverse_cons]
      exact dpA_app (dpA_rev h2) (.cons h1 .nil)
theorem dpA_ints {K : PySem.W.Frag} {H : Hp} : ∀ {ns : List Int} {vs : List V}, DqAll K H vs (ns.map PyData.int) → vs = ns.map V.int
  | [], _, h => by cases h; rfl
  | n :: ns, _, h => by
    cases h with
    | cons h1 h2 => cases h1; rw [dpA_ints h2]; rfl
theorem dpA_of_ints {K : PySem.W.Frag} {H : Hp} : ∀ (ns : List Int), DqAll K H (ns.map V.int) (ns.map PyData.int)
  | [] => .nil
  | n :: ns => .cons (.int n) (dpA_of_ints ns)
theorem dpA_bls {K : PySem.W.Frag} {H : Hp} : ∀ {bs : List Bool} {vs : List V}, DqAll K H vs (bs.map PyData.bool) → vs = bs.map V.bl
  | [], _, h => by cases h; rfl
  | n :: ns, _, h => by
    cases h with
    | cons h1 h2 => cases h1; rw [dpA_bls h2]; rfl

/-! ## the relation -/
structure Ctx where
  H0 : Hp
  Z0 : Hp
  B : Option Addr
abbrev Xo := Option (Addr × Value × Option Addr)
/-- what stays the same in a body: the written part, the classes of errors, the error in hand -/
structure Pa where
  K : PySem.W.Frag
  cA : Nat → Addr
  xo : Xo
def isO : Option Sl → Bool
  | some (.own _) => true
  | _ => false
def SlOk (P : Pa) (c : Ctx) (H Z : Hp) (o : Option (Option V)) : Sl → Prop
  | .un => True
  | .fro d => ∃ v, o = some (some v) ∧ Dq P.K Z v d
  | .own ds => ∃ a vs, o = some (some (.ref a)) ∧ H a = some (.lst vs) ∧ Z a = none ∧ c.H0 a = none ∧ DqAll P.K Z vs ds
  | .bor ds => ∃ a vs, o = some (some (.ref a)) ∧ H a = some (.lst vs) ∧ Z a = none ∧ c.B = some a ∧ DqAll P.K Z vs ds
  | .exc k f p => ∃ a dd v, P.xo = some (a, .ref (P.cA k), some dd) ∧ o = some (some (.ref a)) ∧ Z dd = some (.xd [(f, v)]) ∧ Dq P.K Z v p
  | .scr ns => ∃ a, o = some (some (.ref a)) ∧ SqL P.K Z a (ns.map V.int)
structure Rel (P : Pa) (c : Ctx) (g : List Sl) (σ : St) (H Z : Hp) : Prop where
  sub : Same Z H
  zf : ∀ b x, c.H0 b = some x → Z b = c.Z0 b
  fr : ∀ b x, c.H0 b = some x → c.B ≠ some b → H b = some x
  bo : ∀ a, c.B = some a → (∃ vs, H a = some (.lst vs)) ∧ (∃ x, c.H0 a = some x)
  len : g.length = σ.length
  sl : ∀ (i : Nat) (s : Sl), g[i]? = some s → SlOk P c H Z σ[i]? s
  ds : ∀ (i j : Nat) (a : Addr), i ≠ j → isO g[i]? = true → isO g[j]? = true → σ[i]? = some (some (.ref a)) → σ[j]? ≠ some (some (.ref a))
  b0 : ∀ (i : Nat) (ds : List D), g[i]? = some (.bor ds) → i = 0

section
variable {P : Pa} {c : Ctx} {g : List Sl} {σ : St} {H Z : Hp}
theorem Rel.dom (R : Rel P c g σ H Z) {p : Addr} (h : H p = none) : c.H0 p = none := by
  cases e : c.H0 p with
  | none => rfl
  | some x =>
    by_cases hb : c.B = some p
    · obtain ⟨⟨vs, e2⟩, _⟩ := R.bo p hb
      rw [h] at e2; cases e2
    · rw [R.fr p x e hb] at h; cases h
theorem Rel.zn (R : Rel P c g σ H Z) {p : Addr} (h : H p = none) : Z p = none := by
  cases e : Z p with
  | none => rfl
  | some x => rw [R.sub p x e] at h; cases h
theorem SlOk.mono {H' Z' : Hp} {o : Option (Option V)} {s : Sl} (h : SlOk P c H Z o s) (sz : Same Z Z')
    (k : ∀ a vs, o = some (some (.ref a)) → H a = some (.lst vs) → Z a = none → H' a = some (.lst vs) ∧ Z' a = none) : SlOk P c H' Z' o s := by
  cases s with
  | un => trivial
  | fro d => obtain ⟨v, e, r⟩ := h; exact ⟨v, e, dpM sz r⟩
  | own ds => obtain ⟨a, vs, e, h1, h2, h3, r⟩ := h; obtain ⟨k1, k2⟩ := k a vs e h1 h2; exact ⟨a, vs, e, k1, k2, h3, dpAM sz r⟩
  | bor ds => obtain ⟨a, vs, e, h1, h2, h3, r⟩ := h; obtain ⟨k1, k2⟩ := k a vs e h1 h2; exact ⟨a, vs, e, k1, k2, h3, dpAM sz r⟩
  | exc k f p => obtain ⟨a, dd, v, e1, e2, e3, r⟩ := h; exact ⟨a, dd, v, e1, e2, sz _ _ e3, dpM sz r⟩
  | scr ns => obtain ⟨a, e1, r⟩ := h; exact ⟨a, e1, sz.seq r⟩
/-- a new object, frozen at once -/
theorem Rel.newZ (R : Rel P c g σ H Z) {p : Addr} {o : HO} (h : H p = none) : Rel P c g σ (upd H p o) (upd Z p o) where
  sub := same_upd2 R.sub (R.zn h)
  zf := fun b x e => by
    rw [upd_ne (fun z => by subst z; rw [R.dom h] at e; cases e)]; exact R.zf b x e
  fr := fun b x e hb => by
    rw [upd_ne (fun z => by subst z; rw [R.dom h] at e; cases e)]; exact R.fr b x e hb
  bo := fun a e => by
    obtain ⟨⟨vs, e1⟩, x, e2⟩ := R.bo a e
    exact ⟨⟨vs, by rw [upd_ne (ne_of_none e1 h)]; exact e1⟩, x, e2⟩
  len := R.len
  sl := fun i s e => (R.sl i s e).mono (same_new (R.zn h)) fun a vs _ h1 h2 => by
    have ne := ne_of_none h1 h
    exact ⟨by rw [upd_ne ne]; exact h1, by rw [upd_ne ne]; exact h2⟩
  ds := R.ds
  b0 := R.b0
/-- a new object, not frozen -/
theorem Rel.newH (R : Rel P c g σ H Z) {p : Addr} {o : HO} (h : H p = none) : Rel P c g σ (upd H p o) Z where
  sub := same_out R.sub (R.zn h)
  zf := R.zf
  fr := fun b x e hb => by
    rw [upd_ne (fun z => by subst z; rw [R.dom h] at e; cases e)]; exact R.fr b x e hb
  bo := fun a e => by
    obtain ⟨⟨vs, e1⟩, x, e2⟩ := R.bo a e
    exact ⟨⟨vs, by rw [upd_ne (ne_of_none e1 h)]; exact e1⟩, x, e2⟩
  len := R.len
  sl := fun i s e => (R.sl i s e).mono (Same.refl _) fun a vs _ h1 h2 => by
    have ne := ne_of_none h1 h
    exact ⟨by rw [upd_ne ne]; exact h1, h2⟩
  ds := R.ds
  b0 := R.b0
/-- an object of our own that no slot owns is frozen -/
theorem Rel.frz (R : Rel P c g σ H Z) {p : Addr} {o : HO} (h : H p = some o) (h0 : c.H0 p = none) (hz : Z p = none)
    (hn : ∀ i : Nat, isO g[i]? = true → σ[i]? ≠ some (some (.ref p))) : Rel P c g σ H (upd Z p o) where
  sub := same_in R.sub h
  zf := fun b x e => by
    rw [upd_ne (fun z => by subst z; rw [h0] at e; cases e)]; exact R.zf b x e
  fr := R.fr
  bo := R.bo
  len := R.len
  sl := fun i s e => by
    have q := R.sl i s e
    cases s with
    | un => trivial
    | fro d => obtain ⟨v, e, r⟩ := q; exact ⟨v, e, dpM (same_new hz) r⟩
    | own ds =>
      obtain ⟨a, vs, e1, h1, h2, h3, r⟩ := q
      have ne : a ≠ p := fun z => hn i (by rw [e]; rfl) (z ▸ e1)
      exact ⟨a, vs, e1, h1, by rw [upd_ne ne]; exact h2, h3, dpAM (same_new hz) r⟩
    | bor ds =>
      obtain ⟨a, vs, e1, h1, h2, h3, r⟩ := q
      have ne : a ≠ p := fun z => by
        obtain ⟨_, x, e2⟩ := R.bo a h3
        rw [z, h0] at e2; cases e2
      exact ⟨a, vs, e1, h1, by rw [upd_ne ne]; exact h2, h3, dpAM (same_new hz) r⟩
    | exc k f p' => obtain ⟨a, dd, v, e1, e2, e3, r⟩ := q; exact ⟨a, dd, v, e1, e2, same_new hz _ _ e3, dpM (same_new hz) r⟩
    | scr ns => obtain ⟨a, e1, r⟩ := q; exact ⟨a, e1, (same_new hz).seq r⟩
  ds := R.ds
  b0 := R.b0
theorem getE_set {α : Type} {l : List α} {i j : Nat} {x y : α} (h : (l.set i x)[j]? = some y) : (j = i ∧ y = x) ∨ (j ≠ i ∧ l[j]? = some y) := by
  by_cases e : j = i
  · subst e
    left
    have hl : j < l.length := by
      obtain ⟨q, _⟩ := List.getElem?_eq_some_iff.mp h
      simpa using q
    rw [List.getElem?_set_self hl] at h
    exact ⟨rfl, (Option.some.inj h).symm⟩
  · right
    rw [List.getElem?_set_ne (Ne.symm e)] at h
    exact ⟨e, h⟩
theorem isO_set {l : List Sl} {i j : Nat} {x : Sl} (hx : isO (some x) = false) (h : isO (l.set i x)[j]? = true) : isO l[j]? = true := by
  cases e : (l.set i x)[j]? with
  | none => rw [e] at h; cases h
  | some y =>
    rw [e] at h
    rcases getE_set e with ⟨_, rfl⟩ | ⟨_, e2⟩
    · rw [hx] at h; cases h
    · rw [e2]; exact h
/-- an own slot's list is frozen -/
theorem Rel.frzS (R : Rel P c g σ H Z) {i : Nat} {ds : List D} (hi : g[i]? = some (.own ds)) :
    ∃ a Z', σ[i]? = some (some (.ref a)) ∧ Same Z Z' ∧ Rel P c (g.set i (.fro (.list ds))) σ H Z' ∧ Dq P.K Z' (.ref a) (.list ds) := by
  obtain ⟨a, vs, e1, h1, h2, h3, r⟩ := R.sl i _ hi
  have sz : Same Z (upd Z a (.lst vs)) := same_new h2
  have dd : Dq P.K (upd Z a (.lst vs)) (.ref a) (.list ds) := .lst upd_same (dpAM sz r)
  refine ⟨a, _, e1, sz, ⟨same_in R.sub h1, fun b x e => ?_, R.fr, R.bo, by simpa using R.len, fun j s e => ?_, fun j k b hjk hj hk e => ?_, fun j ds' e => ?_⟩, dd⟩
  · rw [upd_ne (fun z => by subst z; rw [h3] at e; cases e)]; exact R.zf b x e
  · rcases getE_set e with ⟨rfl, rfl⟩ | ⟨hne, e2⟩
    · exact ⟨_, e1, dd⟩
    · have q := R.sl j s e2
      cases s with
      | un => trivial
      | fro d => obtain ⟨v, e, r⟩ := q; exact ⟨v, e, dpM sz r⟩
      | own ds' =>
        obtain ⟨b, ws, e3, h4, h5, h6, r'⟩ := q
        have ne : b ≠ a := fun z => R.ds i j a (Ne.symm hne) (by rw [hi]; rfl) (by rw [e2]; rfl) e1 (z ▸ e3)
        exact ⟨b, ws, e3, h4, by rw [upd_ne ne]; exact h5, h6, dpAM sz r'⟩
      | bor ds' =>
        obtain ⟨b, ws, e3, h4, h5, h6, r'⟩ := q
        have ne : b ≠ a := fun z => by
          obtain ⟨_, x, e7⟩ := R.bo b h6
          rw [z, h3] at e7; cases e7
        exact ⟨b, ws, e3, h4, by rw [upd_ne ne]; exact h5, h6, dpAM sz r'⟩
      | exc k f p' => obtain ⟨b, dd, v, e4, e5, e6, r⟩ := q; exact ⟨b, dd, v, e4, e5, sz _ _ e6, dpM sz r⟩
      | scr ns => obtain ⟨b, e4, r⟩ := q; exact ⟨b, e4, sz.seq r⟩
  · exact R.ds j k b hjk (isO_set rfl hj) (isO_set rfl hk) e
  · rcases getE_set e with ⟨_, q⟩ | ⟨_, e2⟩
    · cases q
    · exact R.b0 j ds' e2
/-- an own slot's list is rewritten -/
theorem Rel.mutO (R : Rel P c g σ H Z) {i : Nat} {ds ds' : List D} {a : Addr} {vs' : List V} (hi : g[i]? = some (.own ds)) (ha : σ[i]? = some (some (.ref a)))
    (r' : DqAll P.K Z vs' ds') : Rel P c (g.set i (.own ds')) σ (upd H a (.lst vs')) Z := by
  obtain ⟨a', vs, e1, h1, h2, h3, r⟩ := R.sl i _ hi
  rw [ha] at e1; cases e1
  have hil : i < g.length := (List.getElem?_eq_some_iff.mp hi).1
  refine ⟨same_out R.sub h2, R.zf, fun b x e hb => ?_, fun b e => ?_, by simpa using R.len, fun j s e => ?_, fun j k b hjk hj hk e => ?_, fun j ds' e => ?_⟩
  · rw [upd_ne (fun z => by subst z; rw [h3] at e; cases e)]; exact R.fr b x e hb
  · obtain ⟨⟨ws, e1⟩, x, e2⟩ := R.bo b e
    have ne : b ≠ a := fun z => by subst z; rw [h3] at e2; cases e2
    exact ⟨⟨ws, by rw [upd_ne ne]; exact e1⟩, x, e2⟩
  · rcases getE_set e with ⟨rfl, rfl⟩ | ⟨hne, e2⟩
    · exact ⟨a, vs', ha, upd_same, h2, h3, r'⟩
    · have q := R.sl j s e2
      cases s with
      | un => trivial
      | fro d => exact q
      | own es =>
        obtain ⟨b, ws, e3, h4, h5, h6, r''⟩ := q
        have ne : b ≠ a := fun z => R.ds i j a (Ne.symm hne) (by rw [hi]; rfl) (by rw [e2]; rfl) ha (z ▸ e3)
        exact ⟨b, ws, e3, by rw [upd_ne ne]; exact h4, h5, h6, r''⟩
      | bor es =>
        obtain ⟨b, ws, e3, h4, h5, h6, r''⟩ := q
        have ne : b ≠ a := fun z => by
          obtain ⟨_, x, e7⟩ := R.bo b h6
          rw [z, h3] at e7; cases e7
        exact ⟨b, ws, e3, by rw [upd_ne ne]; exact h4, h5, h6, r''⟩
      | exc k f p' => exact q
      | scr ns => exact q
  · have f : ∀ m : Nat, isO (g.set i (Sl.own ds'))[m]? = true → isO g[m]? = true := fun m q => by
      cases e : (g.set i (Sl.own ds'))[m]? with
      | none => rw [e] at q; cases q
      | some y =>
        rw [e] at q
        rcases getE_set e with ⟨rfl, _⟩ | ⟨_, e2⟩
        · rw [hi]; rfl
        · rw [e2]; exact q
    exact R.ds j k b hjk (f j hj) (f k hk) e
  · rcases getE_set e with ⟨_, q⟩ | ⟨_, e2⟩
    · cases q
    · exact R.b0 j _ e2
/-- the borrowed list is rewritten -/
theorem Rel.mutB (R : Rel P c g σ H Z) {i : Nat} {ds ds' : List D} {a : Addr} {vs' : List V} (hi : g[i]? = some (.bor ds)) (ha : σ[i]? = some (some (.ref a)))
    (r' : DqAll P.K Z vs' ds') : Rel P c (g.set i (.bor ds')) σ (upd H a (.lst vs')) Z := by
  obtain ⟨a', vs, e1, h1, h2, h3, r⟩ := R.sl i _ hi
  rw [ha] at e1; cases e1
  obtain ⟨_, x0, ex0⟩ := R.bo a h3
  refine ⟨same_out R.sub h2, R.zf, fun b x e hb => ?_, fun b e => ?_, by simpa using R.len, fun j s e => ?_, fun j k b hjk hj hk e => ?_, fun j ds' e => ?_⟩
  · rw [upd_ne (fun z => by subst z; exact hb h3)]; exact R.fr b x e hb
  · have eb : b = a := by rw [h3] at e; exact (Option.some.inj e).symm
    subst eb
    exact ⟨⟨vs', upd_same⟩, x0, ex0⟩
  · rcases getE_set e with ⟨rfl, rfl⟩ | ⟨hne, e2⟩
    · exact ⟨a, vs', ha, upd_same, h2, h3, r'⟩
    · have q := R.sl j s e2
      cases s with
      | un => trivial
      | fro d => exact q
      | own es =>
        obtain ⟨b, ws, e3, h4, h5, h6, r''⟩ := q
        have ne : b ≠ a := fun z => by rw [z, ex0] at h6; cases h6
        exact ⟨b, ws, e3, by rw [upd_ne ne]; exact h4, h5, h6, r''⟩
      | bor es => exact absurd ((R.b0 j _ e2).trans (R.b0 i _ hi).symm) hne
      | exc k f p' => exact q
      | scr ns => exact q
  · exact R.ds j k b hjk (isO_set rfl hj) (isO_set rfl hk) e
  · rcases getE_set e with ⟨q, _⟩ | ⟨_, e2⟩
    · rw [q]; exact R.b0 i _ hi
    · exact R.b0 j _ e2
/-- a slot is stored -/
theorem Rel.put (R : Rel P c g σ H Z) {i : Nat} {v : Option V} {s : Sl} (hi : i < σ.length) (ok : SlOk P c H Z (some v) s)
    (hd : isO (some s) = true → ∀ a, v = some (.ref a) → ∀ j : Nat, j ≠ i → isO g[j]? = true → σ[j]? ≠ some (some (.ref a))) (hb : ∀ ds, s ≠ .bor ds) :
    Rel P c (g.set i s) (σ.set i v) H Z := by
  have gi : (σ.set i v)[i]? = some v := List.getElem?_set_self hi
  refine ⟨R.sub, R.zf, R.fr, R.bo, by simpa using R.len, fun j t e => ?_, fun j k b hjk hj hk e e' => ?_, fun j ds' e => ?_⟩
  · rcases getE_set e with ⟨rfl, rfl⟩ | ⟨hne, e2⟩
    · rw [gi]; exact ok
    · rw [List.getElem?_set_ne (Ne.symm hne)]; exact R.sl j t e2
  · have f : ∀ m : Nat, isO (g.set i s)[m]? = true → (m = i ∧ isO (some s) = true) ∨ (m ≠ i ∧ isO g[m]? = true) := fun m q => by
      cases e : (g.set i s)[m]? with
      | none => rw [e] at q; cases q
      | some y =>
        rw [e] at q
        rcases getE_set e with ⟨rfl, rfl⟩ | ⟨hne, e2⟩
        · exact .inl ⟨rfl, q⟩
        · exact .inr ⟨hne, by rw [e2]; exact q⟩
    rcases f j hj with ⟨rfl, hs⟩ | ⟨nj, hj'⟩
    · rcases f k hk with ⟨rfl, _⟩ | ⟨nk, hk'⟩
      · exact hjk rfl
      · rw [gi] at e
        rw [List.getElem?_set_ne (Ne.symm nk)] at e'
        exact hd hs b (Option.some.inj e) k nk hk' e'
    · rw [List.getElem?_set_ne (Ne.symm nj)] at e
      rcases f k hk with ⟨rfl, hs⟩ | ⟨nk, hk'⟩
      · rw [gi] at e'
        exact hd hs b (Option.some.inj e') j nj hj' e
      · rw [List.getElem?_set_ne (Ne.symm nk)] at e'
        exact R.ds j k b hjk hj' hk' e e'
  · rcases getE_set e with ⟨_, q⟩ | ⟨_, e2⟩
    · exact absurd q.symm (hb ds')
    · exact R.b0 j _ e2
end
end Mw
namespace Mw
open PySem L2

/-! ## values as they come, as they stay -/
def VR (P : Pa) (c : Ctx) (g : List Sl) (σ : St) (H Z : Hp) (v : V) : EV → Prop
  | .fro d => Dq P.K Z v d
  | .own ds => ∃ a vs, v = .ref a ∧ H a = some (.lst vs) ∧ Z a = none ∧ c.H0 a = none ∧ DqAll P.K Z vs ds ∧ ∀ i : Nat, isO g[i]? = true → σ[i]? ≠ some (some (.ref a))
  | .var i => σ[i]? = some (some v)
def VP (P : Pa) (σ : St) (Z : Hp) (v : V) : EV → Prop
  | .fro d => Dq P.K Z v d
  | .own _ => False
  | .var i => σ[i]? = some (some v)
def frz : EV → EV
  | .fro d => .fro d
  | .own ds => .fro (.list ds)
  | .var i => .var i
def slD : Sl → Option D
  | .fro d => some d
  | .own ds => some (.list ds)
  | .bor ds => some (.list ds)
  | _ => none
def look (g : List Sl) : EV → Option D
  | .fro d => some d
  | .own ds => some (.list ds)
  | .var i => (g[i]?).bind slD
inductive Rr (K : PySem.W.Frag) (H Z : Hp) : V → D → Prop
  | z {v : V} {d : D} (h : Dq K Z v d) : Rr K H Z v d
  | l {a : Addr} {vs : List V} {ds : List D} (h : H a = some (.lst vs)) (r : DqAll K Z vs ds) : Rr K H Z (.ref a) (.list ds)
section
variable {K : PySem.W.Frag} {H Z : Hp} {v : V}
theorem Rr.h {d : D} (h : Rr K H Z v d) (s : Same Z H) : Dq K H v d := by
  cases h with
  | z h => exact dpM s h
  | l h r => exact .lst h (dpAM s r)
theorem Rr.lst {ds : List D} (h : Rr K H Z v (.list ds)) (s : Same Z H) : ∃ a vs, v = .ref a ∧ H a = some (.lst vs) ∧ DqAll K Z vs ds := by
  cases h with
  | z h => cases h with | lst h1 h2 => exact ⟨_, _, rfl, s _ _ h1, h2⟩
  | l h r => exact ⟨_, _, rfl, h, r⟩
theorem Rr.tup {ds : List D} (h : Rr K H Z v (.tuple ds)) (s : Same Z H) : ∃ a vs, v = .ref a ∧ SqT K H a vs ∧ DqAll K Z vs ds := by
  cases h with
  | z h => cases h with | tup h1 h2 => exact ⟨_, _, rfl, seqT s h1, h2⟩
theorem Rr.tupz {ds : List D} (h : Rr K H Z v (.tuple ds)) : Dq K Z v (.tuple ds) := by cases h with | z h => exact h
theorem Rr.int {i : Int} (h : Rr K H Z v (.int i)) : v = .int i := by cases h with | z h => cases h; rfl
theorem Rr.bl {i : Bool} (h : Rr K H Z v (.bool i)) : v = .bl i := by cases h with | z h => cases h; rfl
theorem Rr.str {i : Str} (h : Rr K H Z v (.str i)) : v = .str i := by cases h with | z h => cases h; rfl
theorem Rr.non (h : Rr K H Z v .none) : v = .non := by cases h with | z h => cases h; rfl
end
section
variable {P : Pa} {c : Ctx} {g : List Sl} {σ : St} {H Z Z' : Hp} {v : V} {ev : EV}
theorem VR.frz (R : Rel P c g σ H Z) (h : VR P c g σ H Z v ev) : ∃ Z', Same Z Z' ∧ Rel P c g σ H Z' ∧ VP P σ Z' v (frz ev) := by
  cases ev with
  | fro d => exact ⟨Z, Same.refl _, R, h⟩
  | var i => exact ⟨Z, Same.refl _, R, h⟩
  | own ds =>
    obtain ⟨a, vs, rfl, h1, h2, h3, r, hn⟩ := h
    exact ⟨_, same_new h2, R.frz h1 h3 h2 hn, .lst upd_same (dpAM (same_new h2) r)⟩
theorem VP.mono (h : VP P σ Z v ev) (s : Same Z Z') : VP P σ Z' v ev := by
  cases ev with
  | fro d => exact dpM s h
  | own ds => exact h
  | var i => exact h
theorem VP.vr (h : VP P σ Z v ev) : VR P c g σ H Z v ev := by
  cases ev with
  | fro d => exact h
  | own ds => exact h.elim
  | var i => exact h
theorem VP.rr (h : VP P σ Z v ev) (R : Rel P c g σ H Z) {d : D} (e : look g ev = some d) : Rr P.K H Z v d := by
  cases ev with
  | fro d' => cases e; exact .z h
  | own ds => exact h.elim
  | var i =>
    have h : σ[i]? = some (some v) := h
    have e : (g[i]?).bind slD = some d := e
    cases es : g[i]? with
    | none => rw [es] at e; cases e
    | some s =>
      rw [es] at e
      have ok := R.sl i s es
      cases s with
      | un => cases e
      | exc k f p => cases e
      | scr ns => cases e
      | fro d' =>
        cases e
        obtain ⟨w, e1, r⟩ := ok
        rw [h] at e1; cases e1
        exact .z r
      | own ds =>
        cases e
        obtain ⟨a, vs, e1, h1, _, _, r⟩ := ok
        rw [h] at e1; cases e1
        exact .l h1 r
      | bor ds =>
        cases e
        obtain ⟨a, vs, e1, h1, _, _, r⟩ := ok
        rw [h] at e1; cases e1
        exact .l h1 r
end
/-- a value that leaves: the list of a slot is frozen -/
def esc : EV → SM D
  | .fro d => ret d
  | .own ds => ret (.list ds)
  | .var i => fun g => match g[i]? with
    | some (.fro d) => .ok (d, g)
    | some (.own ds) => .ok (.list ds, g.set i (.fro (.list ds)))
    | _ => .stuck
section
variable {P : Pa} {c : Ctx} {g : List Sl} {σ : St} {H Z : Hp} {v : V} {ev : EV} {ok : D → List Sl → Prop} {ex : Nat → Str → D → List Sl → Prop}
theorem esc_ok (R : Rel P c g σ H Z) (h : VP P σ Z v ev) (p : Post ok ex (esc ev g)) : ∃ d g' Z', Same Z Z' ∧ Rel P c g' σ H Z' ∧ Dq P.K Z' v d ∧ ok d g' := by
  cases ev with
  | fro d => exact ⟨d, g, Z, Same.refl _, R, h, p⟩
  | own ds => exact h.elim
  | var i =>
    have h : σ[i]? = some (some v) := h
    have p : Post ok ex (match g[i]? with
      | some (.fro d) => Res.ok (d, g)
      | some (.own ds) => .ok (.list ds, g.set i (.fro (.list ds)))
      | _ => .stuck) := p
    cases es : g[i]? with
    | none => rw [es] at p; exact p.elim
    | some s =>
      rw [es] at p
      cases s with
      | un => exact p.elim
      | exc k f p' => exact p.elim
      | scr ns => exact p.elim
      | bor ds => exact p.elim
      | fro d =>
        obtain ⟨w, e1, r⟩ := R.sl i _ es
        rw [h] at e1; cases e1
        exact ⟨d, g, Z, Same.refl _, R, r, p⟩
      | own ds =>
        obtain ⟨a, Z', e1, sz, R', r⟩ := R.frzS es
        rw [h] at e1; cases e1
        exact ⟨_, _, Z', sz, R', r, p⟩
end

/-! ## the readings -/
def exK (P : Pa) (c : Ctx) (σ : St) (W : WX) : Nat → Str → D → List Sl → Prop := fun k f p g => ∀ dd v H' Z', Z' dd = some (.xd [(f, v)]) → Dq P.K Z' v p → Rel P c g σ H' Z' → W (.ref (P.cA k)) (some dd) σ H'
def TEo (P : Pa) (W : WX) (de : SM EV) : TE := fun σ H Q => ∃ c g Z, Rel P c g σ H Z ∧
  Post (fun ev g' => ∀ v H' Z', Same Z Z' → Rel P c g' σ H' Z' → VR P c g' σ H' Z' v ev → Q v H') (exK P c σ W) (de g)
def TTo (P : Pa) (W : WX) (de : SM Bool) : TT := fun σ H Q => ∃ c g Z, Rel P c g σ H Z ∧
  Post (fun b g' => ∀ H' Z', Same Z Z' → Rel P c g' σ H' Z' → Q b H') (exK P c σ W) (de g)
inductive VPL (P : Pa) (σ : St) (Z : Hp) : List V → List EV → Prop
  | nil : VPL P σ Z [] []
  | cons {v : V} {vs : List V} {e : EV} {es : List EV} (h : VP P σ Z v e) (r : VPL P σ Z vs es) : VPL P σ Z (v :: vs) (e :: es)
theorem VPL.mono {P : Pa} {σ : St} {Z Z' : Hp} (s : Same Z Z') : ∀ {vs : List V} {es : List EV}, VPL P σ Z vs es → VPL P σ Z' vs es
  | _, _, .nil => .nil
  | _, _, .cons h r => .cons (h.mono s) (r.mono s)
def TAo (P : Pa) (W : WX) (de : SM (List EV)) : TA := fun σ H Q => ∃ c g Z, Rel P c g σ H Z ∧
  Post (fun evs g' => ∀ vs H' Z', Same Z Z' → Rel P c g' σ H' Z' → VPL P σ Z' vs evs → Q vs H') (exK P c σ W) (de g)
section
variable {X : Cx} {e : Expr} {es : List Expr}
theorem peW {t t' : TE} (h : PE X e t) (w : ∀ σ H Q, t' σ H Q → t σ H Q) : PE X e t' := ⟨fun pins s σ H Q I q => h.run pins s σ H Q I (w σ H Q q)⟩
theorem ptW {t t' : TT} (h : PT X e t) (w : ∀ σ H Q, t' σ H Q → t σ H Q) : PT X e t' := ⟨fun pins s σ H Q I q => h.run pins s σ H Q I (w σ H Q q)⟩
theorem pwW {t t' : TT} (h : PW X e t) (w : ∀ σ H Q, t' σ H Q → t σ H Q) : PW X e t' := ⟨fun wh pins s σ H Q I q => h.run wh pins s σ H Q I (w σ H Q q)⟩
theorem paW {t t' : TA} (h : PA X es t) (w : ∀ σ H Q, t' σ H Q → t σ H Q) : PA X es t' := ⟨fun pos pins s σ H Q I q => h.run pos pins s σ H Q I (w σ H Q q)⟩
theorem psW {st : Stmt} {t t' : TS} (h : PS X st t) (w : ∀ Dd σ H, t' Dd σ H → t Dd σ H) : PS X st t' := ⟨fun pins s σ H Q I q => h.run pins s σ H Q I (w Q σ H q)⟩
theorem pssW {st : List Stmt} {t t' : TS} (h : PSs X st t) (w : ∀ Dd σ H, t' Dd σ H → t Dd σ H) : PSs X st t' := ⟨fun pins s σ H Q I q => h.run pins s σ H Q I (w Q σ H q)⟩
end
def onE {β : Type} (da : SM EV) (k : EV → SM β) : SM β := bnd da fun ev => k (frz ev)
section
variable {P : Pa} {c : Ctx} {g : List Sl} {σ : St} {H Z : Hp} {W : WX} {β : Type} {ok : β → List Sl → Prop}
theorem TEo.on {da : SM EV} {k : EV → SM β} {R' : VK} (R : Rel P c g σ H Z) (p : Post ok (exK P c σ W) (onE da k g))
    (h : ∀ ev g1 v H1 Z1, Same Z Z1 → Rel P c g1 σ H1 Z1 → VP P σ Z1 v ev → Post ok (exK P c σ W) (k ev g1) → R' v H1) : TEo P W da σ H R' := by
  refine ⟨c, g, Z, R, post_mono (post_bnd.mp p) (fun ev g1 q v H1 Z1 sz R1 vr => ?_) fun _ _ _ _ q => q⟩
  obtain ⟨Z2, sz2, R2, vp⟩ := vr.frz R1
  exact h _ g1 v H1 Z2 (sz.trans sz2) R2 vp q
theorem TTo.on {da : SM Bool} {k : Bool → SM β} {R' : Bool → Hp → Prop} (R : Rel P c g σ H Z) (p : Post ok (exK P c σ W) (bnd da k g))
    (h : ∀ b g1 H1 Z1, Same Z Z1 → Rel P c g1 σ H1 Z1 → Post ok (exK P c σ W) (k b g1) → R' b H1) : TTo P W da σ H R' :=
  ⟨c, g, Z, R, post_mono (post_bnd.mp p) (fun b g1 q H1 Z1 sz R1 => h b g1 H1 Z1 sz R1 q) fun _ _ _ _ q => q⟩
theorem TAo.on {da : SM (List EV)} {k : List EV → SM β} {R' : List V → Hp → Prop} (R : Rel P c g σ H Z) (p : Post ok (exK P c σ W) (bnd da k g))
    (h : ∀ evs g1 vs H1 Z1, Same Z Z1 → Rel P c g1 σ H1 Z1 → VPL P σ Z1 vs evs → Post ok (exK P c σ W) (k evs g1) → R' vs H1) : TAo P W da σ H R' :=
  ⟨c, g, Z, R, post_mono (post_bnd.mp p) (fun b g1 q vs H1 Z1 sz R1 vp => h b g1 vs H1 Z1 sz R1 vp q) fun _ _ _ _ q => q⟩
end

/-! ## what an operation gives -/
inductive Out where
  | val (d : D)
  | tupN (ds : List D)
  | lstN (ds : List D)
def Out.ev : Out → EV
  | .val d => .fro d
  | .tupN ds => .fro (.tuple ds)
  | .lstN ds => .own ds
def OutP (K : PySem.W.Frag) (H Z : Hp) (Q : VK) : Out → Prop
  | .val d => ∀ v, Dq K Z v d → Q v H
  | .tupN ds => (∀ v, Dq K Z v (.tuple ds) → Q v H) ∧ ∀ p vs, H p = none → DqAll K Z vs ds → Q (.ref p) (upd H p (.tup vs))
  | .lstN ds => ∀ p vs, H p = none → DqAll K Z vs ds → Q (.ref p) (upd H p (.lst vs))
section
variable {P : Pa} {c : Ctx} {g : List Sl} {σ : St} {H Z Z0 : Hp} {Q : VK}
theorem VR.newL (R : Rel P c g σ H Z) {p : Addr} {vs : List V} {ds : List D} (hp : H p = none) (r : DqAll P.K Z vs ds) : VR P c g σ (upd H p (.lst vs)) Z (.ref p) (.own ds) := by
  refine ⟨p, vs, rfl, upd_same, R.zn hp, R.dom hp, r, fun i hi e => ?_⟩
  cases es : g[i]? with
  | none => rw [es] at hi; cases hi
  | some s =>
    rw [es] at hi
    cases s with
    | own ds' =>
      obtain ⟨a, ws, e1, h1, _⟩ := R.sl i _ es
      rw [e] at e1; cases e1
      rw [hp] at h1; cases h1
    | un => cases hi
    | fro _ => cases hi
    | bor _ => cases hi
    | exc _ _ _ => cases hi
    | scr _ => cases hi
theorem out_fin {o : Out} (R : Rel P c g σ H Z) (sz : Same Z0 Z) (h : ∀ v H' Z', Same Z0 Z' → Rel P c g σ H' Z' → VR P c g σ H' Z' v o.ev → Q v H') : OutP P.K H Z Q o := by
  cases o with
  | val d => exact fun v r => h v H Z sz R r
  | tupN ds => exact ⟨fun v r => h v H Z sz R r, fun p vs hp r => h _ _ _ (sz.trans (same_new (R.zn hp))) (R.newZ hp) (.tup (SqT.of upd_same) (dpAM (same_new (R.zn hp)) r))⟩
  | lstN ds => exact fun p vs hp r => h _ _ Z sz (R.newH hp) (VR.newL R hp r)
end
def app2 (f : D → D → Option Out) (x y : EV) : SM EV := fun g => match (look g x).bind fun d => (look g y).bind fun e => f d e with
  | some o => .ok (o.ev, g)
  | none => .stuck
def app1 (f : D → Option Out) (x : EV) : SM EV := fun g => match (look g x).bind f with
  | some o => .ok (o.ev, g)
  | none => .stuck
def lookL (g : List Sl) : List EV → Option (List D)
  | [] => some []
  | e :: es => (look g e).bind fun d => (lookL g es).bind fun ds => some (d :: ds)
def appN (f : List D → Option Out) (xs : List EV) : SM EV := fun g => match (lookL g xs).bind f with
  | some o => .ok (o.ev, g)
  | none => .stuck
inductive RrL (K : PySem.W.Frag) (H Z : Hp) : List V → List D → Prop
  | nil : RrL K H Z [] []
  | cons {v : V} {vs : List V} {d : D} {ds : List D} (h : Rr K H Z v d) (r : RrL K H Z vs ds) : RrL K H Z (v :: vs) (d :: ds)
def Sound2 (K : PySem.W.Frag) (r : R2) (f : D → D → Option Out) : Prop := ∀ (H Z : Hp) (x y : V) (d e : D) (o : Out) (Q : VK), Same Z H → Rr K H Z x d → Rr K H Z y e → f d e = some o → OutP K H Z Q o → r x y H Q
def Sound1 (K : PySem.W.Frag) (r : V → Hp → VK → Prop) (f : D → Option Out) : Prop := ∀ (H Z : Hp) (x : V) (d : D) (o : Out) (Q : VK), Same Z H → Rr K H Z x d → f d = some o → OutP K H Z Q o → r x H Q
def SoundN (K : PySem.W.Frag) (r : List V → Hp → VK → Prop) (f : List D → Option Out) : Prop := ∀ (H Z : Hp) (xs : List V) (ds : List D) (o : Out) (Q : VK), Same Z H → RrL K H Z xs ds → f ds = some o → OutP K H Z Q o → r xs H Q
section
variable {P : Pa} {c : Ctx} {g : List Sl} {σ : St} {H Z : Hp} {W : WX} {ok : EV → List Sl → Prop} {ex : Nat → Str → D → List Sl → Prop} {Q : VK}
theorem app2_ok {f : D → D → Option Out} {r : R2} {x y : EV} {v w : V} (so : Sound2 P.K r f) (R : Rel P c g σ H Z) (hx : VP P σ Z v x) (hy : VP P σ Z w y)
    (p : Post ok ex (app2 f x y g)) (h : ∀ o : Out, ok o.ev g → OutP P.K H Z Q o) : r v w H Q := by
  unfold app2 at p
  cases e1 : look g x with
  | none => rw [e1] at p; exact p.elim
  | some d =>
    cases e2 : look g y with
    | none => rw [e1, e2] at p; exact p.elim
    | some e =>
      rw [e1, e2] at p
      simp only [Option.bind_some] at p
      cases e3 : f d e with
      | none => rw [e3] at p; exact p.elim
      | some o => rw [e3] at p; exact so H Z v w d e o Q R.sub (hx.rr R e1) (hy.rr R e2) e3 (h o p)
theorem app1_ok {f : D → Option Out} {r : V → Hp → VK → Prop} {x : EV} {v : V} (so : Sound1 P.K r f) (R : Rel P c g σ H Z) (hx : VP P σ Z v x)
    (p : Post ok ex (app1 f x g)) (h : ∀ o : Out, ok o.ev g → OutP P.K H Z Q o) : r v H Q := by
  unfold app1 at p
  cases e1 : look g x with
  | none => rw [e1] at p; exact p.elim
  | some d =>
    rw [e1] at p
    simp only [Option.bind_some] at p
    cases e3 : f d with
    | none => rw [e3] at p; exact p.elim
    | some o => rw [e3] at p; exact so H Z v d o Q R.sub (hx.rr R e1) e3 (h o p)
theorem lookL_rr (R : Rel P c g σ H Z) : ∀ {xs : List EV} {vs : List V} {ds : List D}, VPL P σ Z vs xs → lookL g xs = some ds → RrL P.K H Z vs ds
  | [], _, _, h, e => by cases h; cases e; exact .nil
  | x :: xs, _, _, h, e => by
    cases h with
    | cons h1 h2 =>
      unfold lookL at e
      cases e1 : look g x with
      | none => rw [e1] at e; cases e
      | some d =>
        cases e2 : lookL g xs with
        | none => rw [e1, e2] at e; cases e
        | some ds =>
          rw [e1, e2] at e
          cases e
          exact .cons (h1.rr R e1) (lookL_rr R h2 e2)
theorem appN_ok {f : List D → Option Out} {r : List V → Hp → VK → Prop} {xs : List EV} {vs : List V} (so : SoundN P.K r f) (R : Rel P c g σ H Z) (hx : VPL P σ Z vs xs)
    (p : Post ok ex (appN f xs g)) (h : ∀ o : Out, ok o.ev g → OutP P.K H Z Q o) : r vs H Q := by
  unfold appN at p
  cases e1 : lookL g xs with
  | none => rw [e1] at p; exact p.elim
  | some d =>
    rw [e1] at p
    simp only [Option.bind_some] at p
    cases e3 : f d with
    | none => rw [e3] at p; exact p.elim
    | some o => rw [e3] at p; exact so H Z vs d o Q R.sub (lookL_rr R hx e1) e3 (h o p)
end

/-! ## expressions -/
def cst (d : D) : SM EV := ret (.fro d)
/-- a name -/
def vr (i : Nat) : SM EV := fun g => match g[i]? with
  | some (.fro d) => .ok (.fro d, g)
  | some (.own _) => .ok (.var i, g)
  | some (.bor _) => .ok (.var i, g)
  | _ => .stuck
def op2 (f : D → D → Option Out) (da db : SM EV) : SM EV := onE da fun x => onE db fun y => app2 f x y
def op1 (f : D → Option Out) (da : SM EV) : SM EV := onE da (app1 f)
def opN (f : List D → Option Out) (da : SM (List EV)) : SM EV := bnd da (appN f)
def argsNil : SM (List EV) := ret []
def argsCons (da : SM EV) (dr : SM (List EV)) : SM (List EV) := onE da fun x => bnd dr fun xs => ret (x :: xs)
def escL : List EV → SM (List D)
  | [] => ret []
  | e :: es => bnd (esc e) fun d => bnd (escL es) fun ds => ret (d :: ds)
def SZ : Nat := 16777216
def tupE (da : SM (List EV)) : SM EV := bnd da fun xs => bnd (escL xs) fun ds => if ds.length ≤ SZ then ret (.fro (.tuple ds)) else fun _ => .stuck
def lstE (da : SM (List EV)) : SM EV := bnd da fun xs => bnd (escL xs) fun ds => if ds.length ≤ SZ then ret (.own ds) else fun _ => .stuck
theorem SZ_eq : SZ = sizeLine := by rw [sizeLine_eq]; rfl
section
variable {X : Cx} {P : Pa} {W : WX} {e a b : Expr} {es : List Expr} {pos : Pos}
theorem me_int {i j} : PE X (.Constant (.int i) j pos) (TEo P W (cst (.int i))) := peW pe_int fun σ H Q ⟨c, g, Z, R, p⟩ => p _ H Z (Same.refl _) R (.int i)
theorem me_str {x j} : PE X (.Constant (.str x) j pos) (TEo P W (cst (.str x))) := peW pe_str fun σ H Q ⟨c, g, Z, R, p⟩ => p _ H Z (Same.refl _) R (.str x)
theorem me_bl {x j} : PE X (.Constant (.bool x) j pos) (TEo P W (cst (.bool x))) := peW pe_bl fun σ H Q ⟨c, g, Z, R, p⟩ => p _ H Z (Same.refl _) R (.bl x)
theorem me_non {j} : PE X (.Constant .none j pos) (TEo P W (cst .none)) := peW pe_non fun σ H Q ⟨c, g, Z, R, p⟩ => p _ H Z (Same.refl _) R .non
theorem me_var {i : Nat} {x : Str} (h : PE X (.Name x pos) (tVar i)) : PE X (.Name x pos) (TEo P W (vr i)) := peW h fun σ H Q ⟨c, g, Z, R, p⟩ => by
  unfold vr at p
  cases es : g[i]? with
  | none => rw [es] at p; exact p.elim
  | some s =>
    rw [es] at p
    cases s with
    | un => exact p.elim
    | exc k f p' => exact p.elim
    | scr ns => exact p.elim
    | fro d => obtain ⟨v, e1, r⟩ := R.sl i _ es; exact ⟨v, e1, p v H Z (Same.refl _) R r⟩
    | own ds => obtain ⟨a, vs, e1, _⟩ := R.sl i _ es; exact ⟨_, e1, p _ H Z (Same.refl _) R e1⟩
    | bor ds => obtain ⟨a, vs, e1, _⟩ := R.sl i _ es; exact ⟨_, e1, p _ H Z (Same.refl _) R e1⟩
/-- a constant of the module -/
theorem me_glob {x : Str} {d : D} {t : TE} (h : PE X (.Name x pos) t) (hk : ∀ σ H Q, (∀ v, (∀ Z, Dq P.K Z v d) → Q v H) → t σ H Q) : PE X (.Name x pos) (TEo P W (cst d)) :=
  peW h fun σ H Q ⟨c, g, Z, R, p⟩ => hk σ H Q fun v r => p v H Z (Same.refl _) R (r Z)
theorem me_op2 {op : Operator} {r : R2} {f : D → D → Option Out} {da db : SM EV} (ho : OpR X (binaryOp op) r) (so : Sound2 P.K r f) (ha : PE X a (TEo P W da)) (hb : PE X b (TEo P W db)) :
    PE X (.BinOp a op b pos) (TEo P W (op2 f da db)) := peW (pe_op ho ha hb) fun σ H Q ⟨c, g, Z, R, p⟩ =>
  TEo.on R p fun x g1 v H1 Z1 s1 R1 vx p1 => TEo.on R1 p1 fun y g2 w H2 Z2 s2 R2 vy p2 =>
    app2_ok so R2 (vx.mono s2) vy p2 fun o q => out_fin R2 (s1.trans s2) q
theorem me_cmp {op : CmpOp} {r : R2} {f : D → D → Option Out} {da db : SM EV} (ho : OpR X (compareOp op) r) (so : Sound2 P.K r f) (ha : PE X a (TEo P W da)) (hb : PE X b (TEo P W db)) (hm : behindInMarks op b = false) :
    PE X (.Compare a [op] [b] pos) (TEo P W (op2 f da db)) := peW (pe_cmpR ho ha hb hm) fun σ H Q ⟨c, g, Z, R, p⟩ =>
  TEo.on R p fun x g1 v H1 Z1 s1 R1 vx p1 => TEo.on R1 p1 fun y g2 w H2 Z2 s2 R2 vy p2 =>
    app2_ok so R2 (vx.mono s2) vy p2 fun o q => out_fin R2 (s1.trans s2) q
theorem me_un {op : UnaryOp} {r : V → Hp → VK → Prop} {f : D → Option Out} {da : SM EV} (ho : UnR X (unaryOp op) r) (so : Sound1 P.K r f) (ha : PE X a (TEo P W da)) :
    PE X (.UnaryOp op a pos) (TEo P W (op1 f da)) := peW (pe_un ho ha) fun σ H Q ⟨c, g, Z, R, p⟩ =>
  TEo.on R p fun x g1 v H1 Z1 s1 R1 vx p1 => app1_ok so R1 vx p1 fun o q => out_fin R1 s1 q
theorem me_ix {r : R2} {f : D → D → Option Out} {da db : SM EV} (ho : IxR X r) (so : Sound2 P.K r f) (ha : PE X a (TEo P W da)) (hb : PE X b (TEo P W db)) (hs : PlainIx b := by exact fun _ _ => rfl) :
    PE X (.Subscript a b pos) (TEo P W (op2 f da db)) := peW (pe_ix ho ha hb hs) fun σ H Q ⟨c, g, Z, R, p⟩ =>
  TEo.on R p fun x g1 v H1 Z1 s1 R1 vx p1 => TEo.on R1 p1 fun y g2 w H2 Z2 s2 R2 vy p2 =>
    app2_ok so R2 (vx.mono s2) vy p2 fun o q => out_fin R2 (s1.trans s2) q
theorem ma_nil : PA X [] (TAo P W argsNil) := paW pa_nil fun σ H Q ⟨c, g, Z, R, p⟩ => p [] H Z (Same.refl _) R .nil
theorem ma_cons {da : SM EV} {dr : SM (List EV)} (ha : PE X e (TEo P W da)) (hr : PA X es (TAo P W dr)) (hs : starEach (e :: es) X.env = (false, eval e X.env) :: starEach es X.env := by rfl) : PA X (e :: es) (TAo P W (argsCons da dr)) :=
  paW (pa_cons ha hr hs) fun σ H Q ⟨c, g, Z, R, p⟩ =>
    TEo.on R p fun x g1 v H1 Z1 s1 R1 vx p1 => TAo.on R1 p1 fun ys g2 ws H2 Z2 s2 R2 vy p2 => p2 _ H2 Z2 (s1.trans s2) R2 (.cons (vx.mono s2) vy)
theorem me_callB {x : Str} {id : String} {r : List V → Hp → VK → Prop} {f : List D → Option Out} {da : SM (List EV)} {p0 : Pos} (hc : CallR X (.builtin id) r) (so : SoundN P.K r f) (hg : Gl X x) (hm : X.mg x = none) (hv : bootBuiltins x = some (.builtin id)) (ha : PA X (e :: es) (TAo P W da)) (hn : x ≠ "__name__" := by decide) (hdb : (x == ("__debug__" : Str)) = false := by decide)
    (he : starEach (e :: es) X.env = (false, eval e X.env) :: starEach es X.env := by rfl) (hpl : (backTo pos (starEach es X.env)).any (·.1) = false := by rfl) : PE X (.Call (.Name x p0) (e :: es) [] pos) (TEo P W (opN f da)) :=
  peW (pe_callB hc hg hm hv ha hn hdb he hpl) fun σ H Q ⟨c, g, Z, R, p⟩ =>
    TAo.on R p fun ys g2 ws H2 Z2 s2 R2 vy p2 => appN_ok so R2 vy p2 fun o q => out_fin R2 s2 q
theorem me_callTy {x : Str} {T : String} {r : List V → Hp → VK → Prop} {f : List D → Option Out} {da : SM (List EV)} {p0 : Pos} (hc : CallR X (.type T) r) (so : SoundN P.K r f) (hg : Gl X x) (hm : X.mg x = none) (hv : bootBuiltins x = some (.type T)) (ha : PA X (e :: es) (TAo P W da)) (hn : x ≠ "__name__" := by decide) (hdb : (x == ("__debug__" : Str)) = false := by decide)
    (he : starEach (e :: es) X.env = (false, eval e X.env) :: starEach es X.env := by rfl) (hpl : (backTo pos (starEach es X.env)).any (·.1) = false := by rfl) : PE X (.Call (.Name x p0) (e :: es) [] pos) (TEo P W (opN f da)) :=
  peW (pe_callTy hc hg hm hv ha hn hdb he hpl) fun σ H Q ⟨c, g, Z, R, p⟩ =>
    TAo.on R p fun ys g2 ws H2 Z2 s2 R2 vy p2 => appN_ok so R2 vy p2 fun o q => out_fin R2 s2 q
end
section
variable {P : Pa} {c : Ctx} {σ : St} {H : Hp} {ex : Nat → Str → D → List Sl → Prop}
theorem escL_ok : ∀ {xs : List EV} {vs : List V} {g : List Sl} {Z : Hp} {ok : List D → List Sl → Prop}, Rel P c g σ H Z → VPL P σ Z vs xs → Post ok ex (escL xs g) → ∃ ds g' Z', Same Z Z' ∧ Rel P c g' σ H Z' ∧ DqAll P.K Z' vs ds ∧ ok ds g'
  | [], _, g, Z, ok, R, h, p => by cases h; exact ⟨[], g, Z, Same.refl _, R, .nil, p⟩
  | x :: xs, _, g, Z, ok, R, h, p => by
    cases h with
    | cons h1 h2 =>
      obtain ⟨d, g1, Z1, s1, R1, r1, p1⟩ := esc_ok R h1 (post_bnd.mp p)
      obtain ⟨ds, g2, Z2, s2, R2, r2, p2⟩ := escL_ok R1 (h2.mono s1) (post_bnd.mp p1)
      exact ⟨d :: ds, g2, Z2, s1.trans s2, R2, .cons (dpM s2 r1) r2, p2⟩
end
section
variable {X : Cx} {P : Pa} {W : WX} {e a b : Expr} {es : List Expr} {pos : Pos}
theorem me_tup {x1} {da : SM (List EV)} (ha : PA X es (TAo P W da)) : PE X (.Tuple es x1 pos) (TEo P W (tupE da)) := peW (pe_tup ha) fun σ H Q ⟨c, g, Z, R, p⟩ =>
  TAo.on R p fun ys g2 ws H2 Z2 s2 R2 vy p2 => by
    obtain ⟨ds, g3, Z3, s3, R3, r3, p3⟩ := escL_ok R2 vy (post_bnd.mp p2)
    by_cases hl : ds.length ≤ SZ
    · rw [if_pos hl] at p3
      refine ⟨by rw [dpA_len r3, ← SZ_eq]; exact hl, fun q hq => p3 _ _ _ ((s2.trans s3).trans (same_new (R3.zn hq))) (R3.newZ hq) (.tup (SqT.of upd_same) (dpAM (same_new (R3.zn hq)) r3))⟩
    · rw [if_neg hl] at p3; exact p3.elim
theorem me_lst {da : SM (List EV)} (ha : PA X es (TAo P W da)) : PE X (.List es pos) (TEo P W (lstE da)) := peW (pe_lst ha) fun σ H Q ⟨c, g, Z, R, p⟩ =>
  TAo.on R p fun ys g2 ws H2 Z2 s2 R2 vy p2 => by
    obtain ⟨ds, g3, Z3, s3, R3, r3, p3⟩ := escL_ok R2 vy (post_bnd.mp p2)
    by_cases hl : ds.length ≤ SZ
    · rw [if_pos hl] at p3
      refine ⟨by rw [dpA_len r3, ← SZ_eq]; exact hl, fun q hq => p3 _ _ _ (s2.trans s3) (R3.newH hq) (VR.newL R3 hq r3)⟩
    · rw [if_neg hl] at p3; exact p3.elim

/-! ## tests -/
def tstE (da : SM EV) : SM Bool := onE da fun x => fun g => match look g x with
  | some (.bool b) => .ok (b, g)
  | _ => .stuck
def truD : D → Option Bool
  | .none => some false
  | .bool b => some b
  | .int i => some (i != 0)
  | .str x => if x.length ≤ SZ then some ((x.length : Int) != 0) else none
  | .list ds => some (!ds.isEmpty)
  | .tuple ds => some (!ds.isEmpty)
  | .dict _ => none
def truE (da : SM EV) : SM Bool := onE da fun x => fun g => match (look g x).bind truD with
  | some b => .ok (b, g)
  | none => .stuck
def andT (a b : SM Bool) : SM Bool := bnd a fun c => if c then b else ret false
def orT (a b : SM Bool) : SM Bool := bnd a fun c => if c then ret true else b
def notT (a : SM Bool) : SM Bool := bnd a fun c => ret (!c)
def ifE (t : SM Bool) (a b : SM EV) : SM EV := bnd t fun c => if c then a else b
/-- a test as a value -/
def valT (t : SM Bool) : SM EV := bnd t fun c => ret (.fro (.bool c))
theorem mt_op {op : CmpOp} {r : R2} {f : D → D → Option Out} {da db : SM EV} (ho : OpR X (compareOp op) r) (so : Sound2 P.K r f) (ha : PE X a (TEo P W da)) (hb : PE X b (TEo P W db)) (hm : behindInMarks op b = false) :
    PT X (.Compare a [op] [b] pos) (TTo P W (tstE (op2 f da db))) := by
  have h := pt_cmpR (pos := pos) ho ha hb hm
  refine ptW h fun σ H Q ⟨c, g, Z, R, p⟩ => ?_
  have p' := post_bnd.mp p
  refine TEo.on R p' fun x g1 v H1 Z1 s1 R1 vx p1 => TEo.on R1 p1 fun y g2 w H2 Z2 s2 R2 vy p2 => app2_ok so R2 (vx.mono s2) vy p2 fun o q => out_fin R2 (s1.trans s2) fun v3 H3 Z3 s3 R3 r3 => ?_
  cases o with
  | val d =>
    cases d with
    | bool k =>
      have r3 : Dq P.K Z3 v3 (.bool k) := r3
      cases r3
      exact ⟨k, rfl, q H3 Z3 s3 R3⟩
    | none => exact q.elim
    | int _ => exact q.elim
    | str _ => exact q.elim
    | list _ => exact q.elim
    | tuple _ => exact q.elim
    | dict _ => exact q.elim
  | tupN ds => exact q.elim
  | lstN ds => exact q.elim
theorem mt_val {da : SM EV} (ha : PE X a (TEo P W da)) (he : ∀ whole, isTrue a X.env whole = (do let v ← whole; standAt a.pos; holding [v] (truthy v)) := by intro _; rfl) :
    PT X a (TTo P W (tstE da)) := ptW (pt_val ha he) fun σ H Q ⟨c, g, Z, R, p⟩ => TEo.on R p fun x g1 v H1 Z1 s1 R1 vx p1 => by
  cases e1 : look g1 x with
  | none => rw [e1] at p1; exact p1.elim
  | some d =>
    rw [e1] at p1
    have rr := vx.rr R1 e1
    cases d with
    | bool k => exact ⟨k, rr.bl, p1 H1 Z1 s1 R1⟩
    | none => exact p1.elim
    | int _ => exact p1.elim
    | str _ => exact p1.elim
    | list _ => exact p1.elim
    | tuple _ => exact p1.elim
    | dict _ => exact p1.elim
theorem tru_of {K : PySem.W.Frag} {H Z : Hp} {v : V} {d : D} {b : Bool} (rr : Rr K H Z v d) (s : Same Z H) (e : truD d = some b) : TruV K v H b := by
  cases d with
  | none => cases e; rw [rr.non]; rfl
  | bool k => cases e; rw [rr.bl]; rfl
  | int i => cases e; rw [rr.int]; rfl
  | str x =>
    have e : (if x.length ≤ SZ then some ((x.length : Int) != 0) else none) = some b := e
    by_cases hl : x.length ≤ SZ
    · rw [if_pos hl] at e; cases e; rw [rr.str]; exact ⟨by rw [← SZ_eq]; exact hl, rfl⟩
    · rw [if_neg hl] at e; cases e
  | list ds =>
    cases e
    obtain ⟨a, vs, rfl, h, r⟩ := rr.lst s
    refine .inl ⟨vs, SqL.of h, ?_⟩
    have hl := dpA_len r
    cases vs <;> cases ds <;> first | rfl | (simp at hl)
  | tuple ds =>
    cases e
    obtain ⟨a, vs, rfl, h, r⟩ := rr.tup s
    refine .inr (.inl ⟨vs, h, ?_⟩)
    have hl := dpA_len r
    cases vs <;> cases ds <;> first | rfl | (simp at hl)
  | dict _ => cases e
theorem mt_tru {da : SM EV} (hK : P.K = X.K) (ha : PE X a (TEo P W da)) (he : ∀ whole, isTrue a X.env whole = (do let v ← whole; standAt a.pos; holding [v] (truthy v)) := by intro _; rfl) :
    PT X a (TTo P W (truE da)) := ptW (pt_truth ha he) fun σ H Q ⟨c, g, Z, R, p⟩ => TEo.on R p fun x g1 v H1 Z1 s1 R1 vx p1 => by
  cases e1 : look g1 x with
  | none => rw [e1] at p1; exact p1.elim
  | some d =>
    rw [e1] at p1
    simp only [Option.bind_some] at p1
    cases e2 : truD d with
    | none => rw [e2] at p1; exact p1.elim
    | some b => rw [e2] at p1; exact ⟨b, hK ▸ tru_of (vx.rr R1 e1) R1.sub e2, p1 H1 Z1 s1 R1⟩
theorem mw_and1 {t : SM Bool} (h : PT X a (TTo P W t)) : PW X (.BoolOp .And [a] pos) (TTo P W t) := pw_and1 h
theorem mw_or1 {t : SM Bool} (h : PT X a (TTo P W t)) : PW X (.BoolOp .Or [a] pos) (TTo P W t) := pw_or1 h
theorem mw_and {t u : SM Bool} {rest : List Expr} (ha : PT X a (TTo P W t)) (hb : PW X (.BoolOp .And (b :: rest) pos) (TTo P W u)) : PW X (.BoolOp .And (a :: b :: rest) pos) (TTo P W (andT t u)) :=
  pwW (pw_and ha hb) fun σ H Q ⟨c, g, Z, R, p⟩ => TTo.on R p fun k g1 H1 Z1 s1 R1 p1 => by
    cases k with
    | true => exact ⟨c, g1, Z1, R1, post_mono p1 (fun k2 g2 q H2 Z2 s2 R2 => q H2 Z2 (s1.trans s2) R2) fun _ _ _ _ q => q⟩
    | false => exact p1 H1 Z1 s1 R1
theorem mw_or {t u : SM Bool} {rest : List Expr} (ha : PT X a (TTo P W t)) (hb : PW X (.BoolOp .Or (b :: rest) pos) (TTo P W u)) : PW X (.BoolOp .Or (a :: b :: rest) pos) (TTo P W (orT t u)) :=
  pwW (pw_or ha hb) fun σ H Q ⟨c, g, Z, R, p⟩ => TTo.on R p fun k g1 H1 Z1 s1 R1 p1 => by
    cases k with
    | false => exact ⟨c, g1, Z1, R1, post_mono p1 (fun k2 g2 q H2 Z2 s2 R2 => q H2 Z2 (s1.trans s2) R2) fun _ _ _ _ q => q⟩
    | true => exact p1 H1 Z1 s1 R1
theorem mt_not {t : SM Bool} (h : PT X a (TTo P W t)) : PT X (.UnaryOp .Not a pos) (TTo P W (notT t)) :=
  ptW (pt_not h) fun σ H Q ⟨c, g, Z, R, p⟩ => TTo.on R p fun k g1 H1 Z1 s1 R1 p1 => p1 H1 Z1 s1 R1
theorem me_if {t : SM Bool} {da db : SM EV} {q : Expr} (h : PT X q (TTo P W t)) (ha : PE X a (TEo P W da)) (hb : PE X b (TEo P W db)) : PE X (.IfExp q a b pos) (TEo P W (ifE t da db)) :=
  peW (pe_ifExp h ha hb) fun σ H Q ⟨c, g, Z, R, p⟩ => TTo.on R p fun k g1 H1 Z1 s1 R1 p1 => by
    cases k with
    | true => exact ⟨c, g1, Z1, R1, post_mono p1 (fun k2 g2 q v H2 Z2 s2 R2 => q v H2 Z2 (s1.trans s2) R2) fun _ _ _ _ q => q⟩
    | false => exact ⟨c, g1, Z1, R1, post_mono p1 (fun k2 g2 q v H2 Z2 s2 R2 => q v H2 Z2 (s1.trans s2) R2) fun _ _ _ _ q => q⟩
/-! and, or, not as values of truth -/
def andV (a b : SM EV) : SM EV := bnd (tstE a) fun c => if c then b else ret (.fro (.bool false))
def orV (a b : SM EV) : SM EV := bnd (tstE a) fun c => if c then ret (.fro (.bool true)) else b
def notV (a : SM EV) : SM EV := bnd (tstE a) fun c => ret (.fro (.bool (!c)))
theorem tst_on {β : Type} {c : Ctx} {g : List Sl} {σ : St} {H Z : Hp} {ok : β → List Sl → Prop} {da : SM EV} {k : Bool → SM β} {R' : VK} (R : Rel P c g σ H Z) (p : Post ok (exK P c σ W) (bnd (tstE da) k g))
    (h : ∀ b g1 H1 Z1, Same Z Z1 → Rel P c g1 σ H1 Z1 → Post ok (exK P c σ W) (k b g1) → R' (.bl b) H1) : TEo P W da σ H R' := by
  have p' := post_bnd.mp p
  refine TEo.on R p' fun x g1 v H1 Z1 s1 R1 vx p1 => ?_
  cases e1 : look g1 x with
  | none => rw [e1] at p1; exact p1.elim
  | some d =>
    rw [e1] at p1
    have rr := vx.rr R1 e1
    cases d with
    | bool b => rw [rr.bl]; exact h b g1 H1 Z1 s1 R1 p1
    | none => exact p1.elim
    | int _ => exact p1.elim
    | str _ => exact p1.elim
    | list _ => exact p1.elim
    | tuple _ => exact p1.elim
    | dict _ => exact p1.elim
theorem me_and {da db : SM EV} {rest : List Expr} (ha : PE X a (TEo P W da)) (hb : PE X (.BoolOp .And (b :: rest) pos) (TEo P W db)) : PE X (.BoolOp .And (a :: b :: rest) pos) (TEo P W (andV da db)) :=
  peW (pe_and ha hb) fun σ H Q ⟨c, g, Z, R, p⟩ => tst_on R p fun k g1 H1 Z1 s1 R1 p1 => by
    refine ⟨k, rfl, ?_⟩
    cases k with
    | true => exact ⟨c, g1, Z1, R1, post_mono p1 (fun k2 g2 q v H2 Z2 s2 R2 => q v H2 Z2 (s1.trans s2) R2) fun _ _ _ _ q => q⟩
    | false => exact p1 _ H1 Z1 s1 R1 (.bl false)
theorem me_or {da db : SM EV} {rest : List Expr} (ha : PE X a (TEo P W da)) (hb : PE X (.BoolOp .Or (b :: rest) pos) (TEo P W db)) : PE X (.BoolOp .Or (a :: b :: rest) pos) (TEo P W (orV da db)) :=
  peW (pe_or ha hb) fun σ H Q ⟨c, g, Z, R, p⟩ => tst_on R p fun k g1 H1 Z1 s1 R1 p1 => by
    refine ⟨k, rfl, ?_⟩
    cases k with
    | false => exact ⟨c, g1, Z1, R1, post_mono p1 (fun k2 g2 q v H2 Z2 s2 R2 => q v H2 Z2 (s1.trans s2) R2) fun _ _ _ _ q => q⟩
    | true => exact p1 _ H1 Z1 s1 R1 (.bl true)
theorem me_one {op : BoolOp} {da : SM EV} (ha : PE X a (TEo P W da)) : PE X (.BoolOp op [a] pos) (TEo P W da) := pe_one ha
theorem me_not {da : SM EV} (ha : PE X a (TEo P W da)) : PE X (.UnaryOp .Not a pos) (TEo P W (notV da)) :=
  peW (pe_not ha) fun σ H Q ⟨c, g, Z, R, p⟩ => tst_on R p fun k g1 H1 Z1 s1 R1 p1 => ⟨k, rfl, p1 _ H1 Z1 s1 R1 (.bl _)⟩
/-- not of any value, by truth -/
def notX (a : SM EV) : SM EV := bnd (truE a) fun c => ret (.fro (.bool (!c)))
theorem me_notX {da : SM EV} (hK : P.K = X.K) (ha : PE X a (TEo P W da)) : PE X (.UnaryOp .Not a pos) (TEo P W (notX da)) :=
  peW (pe_notT ha) fun σ H Q ⟨c, g, Z, R, p⟩ => TEo.on R (post_bnd.mp p) fun x g1 v H1 Z1 s1 R1 vx p1 => by
    cases e1 : look g1 x with
    | none => rw [e1] at p1; exact p1.elim
    | some d =>
      rw [e1] at p1
      simp only [Option.bind_some] at p1
      cases e2 : truD d with
      | none => rw [e2] at p1; exact p1.elim
      | some b => rw [e2] at p1; exact ⟨b, hK ▸ tru_of (vx.rr R1 e1) R1.sub e2, p1 _ H1 Z1 s1 R1 (.bl _)⟩
end
end Mw
namespace Mw
open PySem L2

/-! ## operations upon data -/
def vI (i : Int) : Option Out := some (.val (.int i))
def vB (b : Bool) : Option Out := some (.val (.bool b))
def gd (b : Bool) (o : Option Out) : Option Out := if b then o else none
def mulOk (i j : Int) : Bool := decide (i.natAbs.log2 + j.natAbs.log2 < 1000000)
def divOk (j : Int) : Bool := decide (0 < j ∧ j.natAbs.log2 < 9000)
def powOk (i j : Int) : Bool := decide (0 ≤ j ∧ j ≤ 1000000 ∧ i.natAbs < 2 ^ 64)
def addD : D → D → Option Out
  | .int i, .int j => vI (i + j)
  | .str x, .str y => gd (decide (x.length + y.length ≤ SZ)) (some (.val (.str (x ++ y))))
  | .tuple xs, .tuple ys => gd (decide (xs.length + ys.length ≤ SZ)) (some (.tupN (xs ++ ys)))
  | .list xs, .list ys => gd (decide (xs.length + ys.length ≤ SZ)) (some (.lstN (xs ++ ys)))
  | _, _ => none
def subD : D → D → Option Out
  | .int i, .int j => vI (i - j)
  | _, _ => none
def mulD : D → D → Option Out
  | .int i, .int j => gd (mulOk i j) (vI (i * j))
  | .list xs, .int k => gd (decide (-(2 ^ 63) ≤ k ∧ k < 2 ^ 63 ∧ xs.length * k.toNat ≤ SZ)) (some (.lstN (List.replicate k.toNat xs).flatten))
  | _, _ => none
def divD : D → D → Option Out
  | .int i, .int j => gd (divOk j) (vI (i / j))
  | _, _ => none
def modD : D → D → Option Out
  | .int i, .int j => gd (decide (0 < j)) (vI (i % j))
  | _, _ => none
def powD : D → D → Option Out
  | .int i, .int j => gd (powOk i j) (vI (i ^ j.toNat))
  | _, _ => none
def negD : D → Option Out
  | .int i => vI (-i)
  | _ => none
def ltD : D → D → Option Out
  | .int i, .int j => vB (decide (i < j))
  | _, _ => none
def leD : D → D → Option Out
  | .int i, .int j => vB (decide (i ≤ j))
  | _, _ => none
def gtD : D → D → Option Out
  | .int i, .int j => vB (decide (j < i))
  | _, _ => none
def geD : D → D → Option Out
  | .int i, .int j => vB (decide (j ≤ i))
  | _, _ => none
def shp (d : D) : Bool := SeqAt.shaped d
def eqD (d e : D) : Option Out := gd (shp d && shp e) (vB (PyData.eqv d e))
def neD (d e : D) : Option Out := gd (shp d && shp e) (vB (!PyData.eqv d e))
def isNon : D → Bool
  | .none => true
  | _ => false
def isBl (b : Bool) : D → Bool
  | .bool c => c == b
  | _ => false
def flatD : D → Bool
  | .none => true
  | .bool _ => true
  | .int _ => true
  | .str _ => true
  | _ => false
def memD (x : D) (ds : List D) : Bool := ds.any fun y => PyData.eqv y x
def seqOf : D → Option (List D)
  | .list ds => some ds
  | .tuple ds => some ds
  | _ => none
def inD (neg : Bool) : D → D → Option Out
  | x, .list ds => gd (flatD x && ds.all flatD) (vB (if neg then !memD x ds else memD x ds))
  | x, .tuple ds => gd (flatD x && ds.all flatD) (vB (if neg then !memD x ds else memD x ds))
  | _, _ => none
def ixD : D → D → Option Out
  | .list ds, .int i => (atI ds i).map .val
  | .tuple ds, .int i => (atI ds i).map .val
  | .str z, .int i => gd (decide (z.length ≤ SZ)) ((atI z.cps.toList i).map fun c => .val (.str ⟨#[c]⟩))
  | _, _ => none

section
variable {X : Cx} {K : PySem.W.Frag}
theorem gd_some {b : Bool} {o : Option Out} {x : Out} (h : gd b o = some x) : b = true ∧ o = some x := by
  unfold gd at h
  cases b with
  | true => exact ⟨rfl, h⟩
  | false => cases h
abbrev rAdd : PySem.W.Frag → R2 := fun K x y H Q => (∃ i j, x = .int i ∧ y = .int j ∧ Q (.int (i + j)) H) ∨ (∃ i j, x = .str i ∧ y = .str j ∧ i.length + j.length ≤ sizeLine ∧ Q (.str (i ++ j)) H) ∨ rCatA K x y H Q ∨ rCat x y H Q
theorem o_add : OpR X (binaryOp .Add) (rAdd X.K) := OpR.or op_add (OpR.or op_add_str (OpR.or op_catA op_cat))
theorem s_add : Sound2 K (rAdd K) addD := by
  intro H Z x y d e o Q s hx hy h q
  cases d <;> cases e <;> first | (cases h; done) | skip
  · cases h; exact .inl ⟨_, _, hx.int, hy.int, q _ (.int _)⟩
  · obtain ⟨hb, h⟩ := gd_some h; cases h
    exact .inr (.inl ⟨_, _, hx.str, hy.str, by rw [← SZ_eq]; exact of_decide_eq_true hb, q _ (.str _)⟩)
  · obtain ⟨hb, h⟩ := gd_some h; cases h
    obtain ⟨a, vs, rfl, h1, r1⟩ := hx.lst s
    obtain ⟨b, ws, rfl, h2, r2⟩ := hy.lst s
    have hb := of_decide_eq_true hb
    exact .inr (.inr (.inr ⟨a, b, vs, ws, rfl, rfl, h1, h2, by rw [dpA_len r1, dpA_len r2, ← SZ_eq]; exact hb, fun p hp => q p _ hp (dpA_app r1 r2)⟩))
  · obtain ⟨hb, h⟩ := gd_some h; cases h
    obtain ⟨a, vs, rfl, h1, r1⟩ := hx.tup s
    obtain ⟨b, ws, rfl, h2, r2⟩ := hy.tup s
    have hb := of_decide_eq_true hb
    refine .inr (.inr (.inl ⟨a, b, vs, ws, rfl, rfl, h1, h2, by rw [dpA_len r1, dpA_len r2, ← SZ_eq]; exact hb, ?_, ?_, ?_⟩))
    · intro e; subst e
      cases r1 with
      | nil => exact q.1 _ hy.tupz
    · intro e1 e2; subst e2
      cases r2 with
      | nil => rw [List.append_nil] at q; exact q.1 _ hx.tupz
    · exact fun _ _ p hp => q.2 p _ hp (dpA_app r1 r2)
theorem s_int2 {f : Int → Int → Int} {F : D → D → Option Out} (hF : ∀ d e o, F d e = some o → ∃ i j, d = .int i ∧ e = .int j ∧ o = .val (.int (f i j))) : Sound2 K (rI0 fun i j => .int (f i j)) F := by
  intro H Z x y d e o Q s hx hy h q
  obtain ⟨i, j, rfl, rfl, rfl⟩ := hF d e o h
  exact ⟨i, j, hx.int, hy.int, q _ (.int _)⟩
theorem s_intC {C : Int → Int → Prop} {f : Int → Int → Int} {F : D → D → Option Out} (hF : ∀ d e o, F d e = some o → ∃ i j, d = .int i ∧ e = .int j ∧ C i j ∧ o = .val (.int (f i j))) : Sound2 K (rI C fun i j => .int (f i j)) F := by
  intro H Z x y d e o Q s hx hy h q
  obtain ⟨i, j, rfl, rfl, hc, rfl⟩ := hF d e o h
  exact ⟨i, j, hx.int, hy.int, hc, q _ (.int _)⟩
theorem s_intB {f : Int → Int → Bool} {F : D → D → Option Out} (hF : ∀ d e o, F d e = some o → ∃ i j, d = .int i ∧ e = .int j ∧ o = .val (.bool (f i j))) : Sound2 K (rI0 fun i j => .bl (f i j)) F := by
  intro H Z x y d e o Q s hx hy h q
  obtain ⟨i, j, rfl, rfl, rfl⟩ := hF d e o h
  exact ⟨i, j, hx.int, hy.int, q _ (.bl _)⟩
theorem s_sub : Sound2 K (rI0 fun i j => .int (i - j)) subD := s_int2 (f := fun i j => i - j) fun d e o h => by
  cases d <;> cases e <;> first | (cases h; done) | (cases h; exact ⟨_, _, rfl, rfl, rfl⟩)
theorem s_div : Sound2 K (rI CDivW fun i j => .int (i / j)) divD := s_intC fun d e o h => by
  cases d <;> cases e <;> first | (cases h; done) | (obtain ⟨hb, h⟩ := gd_some h; cases h; exact ⟨_, _, rfl, rfl, by simpa [divOk, mulOk, powOk, CDivW, CMulW, CPow] using hb, rfl⟩)
theorem s_mod : Sound2 K (rI (fun _ j => 0 < j) fun i j => .int (i % j)) modD := s_intC fun d e o h => by
  cases d <;> cases e <;> first | (cases h; done) | (obtain ⟨hb, h⟩ := gd_some h; cases h; exact ⟨_, _, rfl, rfl, by simpa [divOk, mulOk, powOk, CDivW, CMulW, CPow] using hb, rfl⟩)
theorem s_pow : Sound2 K (rI CPow fun i j => .int (i ^ j.toNat)) powD := s_intC fun d e o h => by
  cases d <;> cases e <;> first | (cases h; done) | (obtain ⟨hb, h⟩ := gd_some h; cases h; exact ⟨_, _, rfl, rfl, by simpa [divOk, mulOk, powOk, CDivW, CMulW, CPow] using hb, rfl⟩)
theorem o_mul : OpR X (binaryOp .Mult) (fun x y H Q => (rI CMulW fun i j => .int (i * j)) x y H Q ∨ rRep x y H Q) := OpR.or op_mulW op_rep
theorem dpA_rep {H : Hp} {ds : List D} {vs : List V} (h : DqAll K H vs ds) : ∀ n : Nat, DqAll K H (List.replicate n vs).flatten (List.replicate n ds).flatten
  | 0 => .nil
  | n + 1 => by
    rw [List.replicate_succ, List.replicate_succ, List.flatten_cons, List.flatten_cons]
    exact dpA_app h (dpA_rep h n)
theorem s_mul : Sound2 K (fun x y H Q => (rI CMulW fun i j => .int (i * j)) x y H Q ∨ rRep x y H Q) mulD := by
  intro H Z x y d e o Q s hx hy h q
  cases d <;> cases e <;> first | (cases h; done) | skip
  · obtain ⟨hb, h⟩ := gd_some h; cases h
    exact .inl ⟨_, _, hx.int, hy.int, by simpa [mulOk, CMulW] using hb, q _ (.int _)⟩
  · obtain ⟨hb, h⟩ := gd_some h; cases h
    obtain ⟨a, vs, rfl, h1, r1⟩ := hx.lst s
    obtain ⟨b1, b2, b3⟩ := of_decide_eq_true hb
    exact .inr ⟨a, _, vs, rfl, hy.int, h1, b1, b2, by rw [dpA_len r1, ← SZ_eq]; exact b3, fun p hp => q p _ hp (dpA_rep r1 _)⟩
theorem s_neg : Sound1 K (rU fun i => .int (-i)) negD := by
  intro H Z x d o Q s hx h q
  cases d <;> first | (cases h; done) | skip
  cases h
  exact ⟨_, hx.int, q _ (.int _)⟩
theorem s_lt : Sound2 K (rI0 fun i j => .bl (decide (i < j))) ltD := s_intB (f := fun i j => decide (i < j)) fun d e o h => by
  cases d <;> cases e <;> first | (cases h; done) | (cases h; exact ⟨_, _, rfl, rfl, rfl⟩)
theorem s_le : Sound2 K (rI0 fun i j => .bl (decide (i ≤ j))) leD := s_intB (f := fun i j => decide (i ≤ j)) fun d e o h => by
  cases d <;> cases e <;> first | (cases h; done) | (cases h; exact ⟨_, _, rfl, rfl, rfl⟩)
theorem s_gt : Sound2 K (rI0 fun i j => .bl (decide (j < i))) gtD := s_intB (f := fun i j => decide (j < i)) fun d e o h => by
  cases d <;> cases e <;> first | (cases h; done) | (cases h; exact ⟨_, _, rfl, rfl, rfl⟩)
theorem s_ge : Sound2 K (rI0 fun i j => .bl (decide (j ≤ i))) geD := s_intB (f := fun i j => decide (j ≤ i)) fun d e o h => by
  cases d <;> cases e <;> first | (cases h; done) | (cases h; exact ⟨_, _, rfl, rfl, rfl⟩)
theorem s_eq : Sound2 K (rEqD K) eqD := by
  intro H Z x y d e o Q s hx hy h q
  obtain ⟨hb, h⟩ := gd_some h; cases h
  have hb : shp d = true ∧ shp e = true := by simpa using hb
  exact ⟨d, e, dqD (hx.h s), dqD (hy.h s), hb.1, hb.2, q _ (.bl _)⟩
theorem s_ne : Sound2 K (rNeD K) neD := by
  intro H Z x y d e o Q s hx hy h q
  obtain ⟨hb, h⟩ := gd_some h; cases h
  have hb : shp d = true ∧ shp e = true := by simpa using hb
  exact ⟨d, e, dqD (hx.h s), dqD (hy.h s), hb.1, hb.2, q _ (.bl _)⟩
theorem flat_of {H Z : Hp} {v : V} {d : D} (h : Dq K Z v d) (f : flatD d = true) : flatV v = true := by
  cases d <;> first | (cases f; done) | (cases h; rfl)
theorem flatA {Z : Hp} : ∀ {ds : List D} {vs : List V}, DqAll K Z vs ds → ds.all flatD = true → vs.all flatV = true
  | [], _, h, _ => by cases h; rfl
  | d :: ds, _, h, f => by
    cases h with
    | cons h1 h2 =>
      simp only [List.all_cons, Bool.and_eq_true] at f ⊢
      exact ⟨flat_of (H := Z) h1 f.1, flatA h2 f.2⟩
theorem eqv_flat {Z : Hp} {v w : V} {d e : D} (h : Dq K Z v d) (h' : Dq K Z w e) (f : flatD d = true) (f' : flatD e = true) : eqV v w = PyData.eqv d e := by
  cases d <;> first | (cases f; done) | skip
  all_goals cases e <;> first | (cases f'; done) | skip
  all_goals cases h; cases h'; first | rfl | (simp [eqV, PyData.eqv])
theorem memA {Z : Hp} {x : V} {d : D} (hx : Dq K Z x d) (fx : flatD d = true) : ∀ {ds : List D} {vs : List V}, DqAll K Z vs ds → ds.all flatD = true → inV x vs = memD d ds
  | [], _, h, _ => by cases h; rfl
  | e :: ds, _, h, f => by
    cases h with
    | cons h1 h2 =>
      simp only [List.all_cons, Bool.and_eq_true] at f
      have ih := memA hx fx h2 f.2
      unfold inV memD at ih ⊢
      rw [List.any_cons, List.any_cons, ih, eqv_flat h1 hx f.1 fx]
theorem rr_flat {H Z : Hp} {v : V} {d : D} (h : Rr K H Z v d) (f : flatD d = true) : Dq K Z v d := by
  cases h with
  | z h => exact h
  | l h r => cases f
theorem s_in {neg : Bool} : Sound2 K (rIn K neg) (inD neg) := by
  intro H Z x y d e o Q s hx hy h q
  cases e <;> first | (cases h; done) | skip
  · obtain ⟨hb, h⟩ := gd_some h; cases h
    have hb := Bool.and_eq_true_iff.mp hb
    obtain ⟨a, vs, rfl, h1, r1⟩ := hy.lst s
    have hx := rr_flat hx hb.1
    refine ⟨a, vs, rfl, .inl (SqL.of h1), flat_of (H := Z) hx hb.1, flatA r1 hb.2, ?_⟩
    rw [memA hx hb.1 r1 hb.2]
    exact q _ (.bl _)
  · obtain ⟨hb, h⟩ := gd_some h; cases h
    have hb := Bool.and_eq_true_iff.mp hb
    obtain ⟨a, vs, rfl, h1, r1⟩ := hy.tup s
    have hx := rr_flat hx hb.1
    refine ⟨a, vs, rfl, .inr h1, flat_of (H := Z) hx hb.1, flatA r1 hb.2, ?_⟩
    rw [memA hx hb.1 r1 hb.2]
    exact q _ (.bl _)
theorem atI_len {α β : Type} {xs : List α} {ys : List β} {i : Int} {y : β} (hl : xs.length = ys.length) (h : atI ys i = some y) : ∃ (j : Nat) (x : α), xs[j]? = some x ∧ ys[j]? = some y ∧ atI xs i = some x := by
  unfold atI at h ⊢
  rw [hl]
  cases e : ixN ys.length i with
  | none => rw [e] at h; cases h
  | some j =>
    rw [e] at h
    have h : ys[j]? = some y := h
    have hj : j < xs.length := by
      rw [hl]
      exact (List.getElem?_eq_some_iff.mp h).1
    exact ⟨j, xs[j], List.getElem?_eq_getElem hj, h, by show xs[j]? = _; exact List.getElem?_eq_getElem hj⟩
theorem s_ix : Sound2 K (rIx K) ixD := by
  intro H Z x y d e o Q s hx hy h q
  cases d <;> cases e <;> first | (cases h; done) | skip
  · rename_i z i
    obtain ⟨hb, h⟩ := gd_some h
    cases e1 : atI z.cps.toList i with
    | none => rw [e1] at h; cases h
    | some c =>
      rw [e1] at h; cases h
      exact .inr (.inr ⟨z, i, c, hx.str, hy.int, by rw [← SZ_eq]; exact of_decide_eq_true hb, e1, q _ (.str _)⟩)
  · rename_i ds i
    have h : (atI ds i).map Out.val = some o := h
    cases e1 : atI ds i with
    | none => rw [e1] at h; cases h
    | some d =>
      rw [e1] at h; cases h
      obtain ⟨a, vs, rfl, h1, r1⟩ := hx.lst s
      obtain ⟨j, v, e2, e3, e4⟩ := atI_len (dpA_len r1) e1
      obtain ⟨w, e5, r5⟩ := dpA_get r1 e3
      rw [e2] at e5; cases e5
      exact .inl ⟨a, vs, i, v, rfl, hy.int, SqL.of h1, e4, q _ r5⟩
  · rename_i ds i
    have h : (atI ds i).map Out.val = some o := h
    cases e1 : atI ds i with
    | none => rw [e1] at h; cases h
    | some d =>
      rw [e1] at h; cases h
      obtain ⟨a, vs, rfl, h1, r1⟩ := hx.tup s
      obtain ⟨j, v, e2, e3, e4⟩ := atI_len (dpA_len r1) e1
      obtain ⟨w, e5, r5⟩ := dpA_get r1 e3
      rw [e2] at e5; cases e5
      exact .inr (.inl ⟨a, vs, i, v, rfl, hy.int, h1, e4, q _ r5⟩)
end
end Mw
namespace Mw
open PySem L2

/-! ## statements -/
inductive Fl where
  | nx
  | rt (e : EV)
  | bk
  | ct
def FlP (P : Pa) (c : Ctx) (Dd : Ends) (Z : Hp) (g : List Sl) : Fl → Prop
  | .nx => ∀ σ' H' Z', Same Z Z' → Rel P c g σ' H' Z' → Dd.nx σ' H'
  | .bk => ∀ σ' H' Z', Same Z Z' → Rel P c g σ' H' Z' → Dd.bk σ' H'
  | .ct => ∀ σ' H' Z', Same Z Z' → Rel P c g σ' H' Z' → Dd.ct σ' H'
  | .rt ev => ∀ v σ' H' Z', Same Z Z' → Rel P c g σ' H' Z' → VR P c g σ' H' Z' v ev → Dd.rt v H'
theorem FlP.mono {P : Pa} {c : Ctx} {Dd : Ends} {Z Z' : Hp} {g : List Sl} {f : Fl} (h : FlP P c Dd Z g f) (s : Same Z Z') : FlP P c Dd Z' g f := by
  cases f with
  | nx => exact fun σ' H' Z2 s2 R => h σ' H' Z2 (s.trans s2) R
  | bk => exact fun σ' H' Z2 s2 R => h σ' H' Z2 (s.trans s2) R
  | ct => exact fun σ' H' Z2 s2 R => h σ' H' Z2 (s.trans s2) R
  | rt ev => exact fun v σ' H' Z2 s2 R r => h v σ' H' Z2 (s.trans s2) R r
def exS (P : Pa) (c : Ctx) (W : WX) : Nat → Str → D → List Sl → Prop := fun k f p g => ∀ dd v σ' H' Z', Z' dd = some (.xd [(f, v)]) → Dq P.K Z' v p → Rel P c g σ' H' Z' → W (.ref (P.cA k)) (some dd) σ' H'
def TSo (P : Pa) (W : WX) (de : SM Fl) : TS := fun Dd σ H => ∃ c g Z, Rel P c g σ H Z ∧ Post (fun fl g' => FlP P c Dd Z g' fl) (exS P c W) (de g)
theorem exS_K {P : Pa} {c : Ctx} {W : WX} {σ : St} {k : Nat} {f : Str} {p : D} {g : List Sl} (h : exS P c W k f p g) : exK P c σ W k f p g := fun dd v H' Z' e r R => h dd v σ H' Z' e r R
section
variable {P : Pa} {c : Ctx} {g : List Sl} {σ : St} {H Z : Hp} {W : WX} {β : Type} {ok : β → List Sl → Prop}
theorem TEo.onS {da : SM EV} {k : EV → SM β} {R' : VK} (R : Rel P c g σ H Z) (p : Post ok (exS P c W) (bnd da k g))
    (h : ∀ ev g1 v H1 Z1, Same Z Z1 → Rel P c g1 σ H1 Z1 → VR P c g1 σ H1 Z1 v ev → Post ok (exS P c W) (k ev g1) → R' v H1) : TEo P W da σ H R' :=
  ⟨c, g, Z, R, post_mono (post_bnd.mp p) (fun ev g1 q v H1 Z1 sz R1 vr => h _ g1 v H1 Z1 sz R1 vr q) fun _ _ _ _ q => exS_K q⟩
theorem TTo.onS {da : SM Bool} {k : Bool → SM β} {R' : Bool → Hp → Prop} (R : Rel P c g σ H Z) (p : Post ok (exS P c W) (bnd da k g))
    (h : ∀ b g1 H1 Z1, Same Z Z1 → Rel P c g1 σ H1 Z1 → Post ok (exS P c W) (k b g1) → R' b H1) : TTo P W da σ H R' :=
  ⟨c, g, Z, R, post_mono (post_bnd.mp p) (fun b g1 q H1 Z1 sz R1 => h b g1 H1 Z1 sz R1 q) fun _ _ _ _ q => exS_K q⟩
theorem TAo.onS {da : SM (List EV)} {k : List EV → SM β} {R' : List V → Hp → Prop} (R : Rel P c g σ H Z) (p : Post ok (exS P c W) (bnd da k g))
    (h : ∀ evs g1 vs H1 Z1, Same Z Z1 → Rel P c g1 σ H1 Z1 → VPL P σ Z1 vs evs → Post ok (exS P c W) (k evs g1) → R' vs H1) : TAo P W da σ H R' :=
  ⟨c, g, Z, R, post_mono (post_bnd.mp p) (fun b g1 q vs H1 Z1 sz R1 vp => h b g1 vs H1 Z1 sz R1 vp q) fun _ _ _ _ q => exS_K q⟩
end
def nxS : SM Fl := ret .nx
def bkS : SM Fl := ret .bk
def ctS : SM Fl := ret .ct
def seqS (s t : SM Fl) : SM Fl := bnd s fun fl => match fl with
  | .nx => t
  | .rt e => ret (.rt e)
  | .bk => ret .bk
  | .ct => ret .ct
def ifS (t : SM Bool) (a b : SM Fl) : SM Fl := bnd t fun c => if c then a else b
def exprS (da : SM EV) : SM Fl := bnd da fun _ => ret .nx
/-- a slot is stored -/
def setS (i : Nat) (s : Sl) : SM Fl := fun g => match g[i]? with
  | some (.bor _) => .stuck
  | some _ => .ok (.nx, g.set i s)
  | none => .stuck
def mvE : EV → SM Sl
  | .fro d => ret (.fro d)
  | .own ds => ret (.own ds)
  | .var j => bnd (esc (.var j)) fun d => ret (.fro d)
def asgS (i : Nat) (da : SM EV) : SM Fl := bnd da fun ev => bnd (mvE ev) fun s => setS i s
def retV (i : Nat) : SM Fl := fun g => match g[i]? with
  | some (.own ds) => .ok (.rt (.own ds), g.set i .un)
  | some (.fro d) => .ok (.rt (.fro d), g)
  | _ => .stuck
def retE : EV → SM Fl
  | .fro d => ret (.rt (.fro d))
  | .own ds => ret (.rt (.own ds))
  | .var i => retV i
def retS (da : SM EV) : SM Fl := bnd da retE
section
variable {P : Pa} {c : Ctx} {g : List Sl} {σ : St} {H Z : Hp} {W : WX}
/-- what is known of a slot is forgotten -/
theorem Rel.forget (R : Rel P c g σ H Z) (i : Nat) (v : Option V) : Rel P c (g.set i .un) (σ.set i v) H Z := by
  by_cases hi : i < σ.length
  · exact R.put hi trivial (fun z => nomatch z) (fun _ z => nomatch z)
  · have e1 : σ.set i v = σ := List.set_eq_of_length_le (by omega)
    have e2 : g.set i .un = g := List.set_eq_of_length_le (by rw [R.len]; omega)
    rw [e1, e2]; exact R
theorem Rel.un (R : Rel P c g σ H Z) (i : Nat) : Rel P c (g.set i .un) σ H Z := by
  by_cases hi : i < σ.length
  · have e : σ.set i σ[i] = σ := List.set_getElem_self hi
    have := R.forget i σ[i]
    rw [e] at this; exact this
  · have e2 : g.set i .un = g := List.set_eq_of_length_le (by rw [R.len]; omega)
    rw [e2]; exact R
theorem setS_ok {i : Nat} {s : Sl} {Dd : Ends} {v : V} {ex : Nat → Str → D → List Sl → Prop} (R : Rel P c g σ H Z) (ok : SlOk P c H Z (some (some v)) s)
    (hd : isO (some s) = true → ∀ a, v = .ref a → ∀ j : Nat, isO g[j]? = true → σ[j]? ≠ some (some (.ref a))) (hb : ∀ ds, s ≠ .bor ds)
    (p : Post (fun fl g' => FlP P c Dd Z g' fl) ex (setS i s g)) : Dd.nx (σ.set i (some v)) H := by
  unfold setS at p
  cases es : g[i]? with
  | none => rw [es] at p; exact p.elim
  | some t =>
    rw [es] at p
    have hi : i < σ.length := by rw [← R.len]; exact (List.getElem?_eq_some_iff.mp es).1
    have R' : Rel P c (g.set i s) (σ.set i (some v)) H Z := R.put hi ok (fun h a e j _ hj => hd h a (Option.some.inj e) j hj) hb
    cases t with
    | bor ds => exact p.elim
    | un => exact p _ _ Z (Same.refl _) R'
    | fro _ => exact p _ _ Z (Same.refl _) R'
    | own _ => exact p _ _ Z (Same.refl _) R'
    | exc _ _ _ => exact p _ _ Z (Same.refl _) R'
    | scr _ => exact p _ _ Z (Same.refl _) R'
/-- the end of an assignment to a name -/
theorem asg_ok {i : Nat} {Dd : Ends} {v : V} {ev : EV} {Z0 : Hp} {ex : Nat → Str → D → List Sl → Prop} (R : Rel P c g σ H Z) (s0 : Same Z0 Z) (vr : VR P c g σ H Z v ev)
    (p : Post (fun fl g' => FlP P c Dd Z0 g' fl) ex (bnd (mvE ev) (fun s => setS i s) g)) : Dd.nx (σ.set i (some v)) H := by
  have p := post_bnd.mp p
  cases ev with
  | fro d =>
    exact setS_ok (s := .fro d) (Dd := Dd) R ⟨v, rfl, vr⟩ (fun z => nomatch z) (fun _ z => nomatch z) (post_mono p (fun fl g' q => q.mono s0) fun _ _ _ _ q => q)
  | own ds =>
    obtain ⟨a, vs, rfl, h1, h2, h3, r, hn⟩ := vr
    exact setS_ok (s := .own ds) (Dd := Dd) R ⟨a, vs, rfl, h1, h2, h3, r⟩ (fun _ b e j hj => by cases e; exact hn j hj) (fun _ z => nomatch z) (post_mono p (fun fl g' q => q.mono s0) fun _ _ _ _ q => q)
  | var j =>
    have vr : VP P σ Z v (.var j) := vr
    obtain ⟨d, g1, Z1, s1, R1, r1, p1⟩ := esc_ok R vr (post_bnd.mp p)
    exact setS_ok (s := .fro d) (Dd := Dd) R1 ⟨v, rfl, r1⟩ (fun z => nomatch z) (fun _ z => nomatch z) (post_mono p1 (fun fl g' q => q.mono (s0.trans s1)) fun _ _ _ _ q => q)
theorem ret_ok {Dd : Ends} {v : V} {ev : EV} {Z0 : Hp} {ex : Nat → Str → D → List Sl → Prop} (R : Rel P c g σ H Z) (s0 : Same Z0 Z) (vr : VR P c g σ H Z v ev)
    (p : Post (fun fl g' => FlP P c Dd Z0 g' fl) ex (retE ev g)) : Dd.rt v H := by
  cases ev with
  | fro d => exact p v σ H Z s0 R vr
  | own ds => exact p v σ H Z s0 R vr
  | var i =>
    have vr : σ[i]? = some (some v) := vr
    have p : Post (fun fl g' => FlP P c Dd Z0 g' fl) ex (retV i g) := p
    unfold retV at p
    cases es : g[i]? with
    | none => rw [es] at p; exact p.elim
    | some t =>
      rw [es] at p
      cases t with
      | un => exact p.elim
      | bor _ => exact p.elim
      | exc _ _ _ => exact p.elim
      | scr _ => exact p.elim
      | fro d =>
        obtain ⟨w, e1, r⟩ := R.sl i _ es
        rw [vr] at e1; cases e1
        exact p v σ H Z s0 R r
      | own ds =>
        obtain ⟨a, vs, e1, h1, h2, h3, r⟩ := R.sl i _ es
        rw [vr] at e1; cases e1
        refine p _ σ H Z s0 (R.un i) ⟨a, vs, rfl, h1, h2, h3, r, fun j hj e => ?_⟩
        have hj' : isO g[j]? = true := isO_set rfl hj
        by_cases hji : j = i
        · subst hji
          have : j < g.length := (List.getElem?_eq_some_iff.mp es).1
          rw [List.getElem?_set_self this] at hj
          cases hj
        · exact R.ds i j a (Ne.symm hji) (by rw [es]; rfl) hj' vr e
end
section
variable {X : Cx} {P : Pa} {W : WX} {e a b : Expr} {es : List Expr} {pos : Pos} {st : Stmt} {rest : List Stmt}
theorem ms_nil : PSs X [] (TSo P W nxS) := pssW pss_nil fun Dd σ H ⟨c, g, Z, R, p⟩ => p σ H Z (Same.refl _) R
theorem ms_pass : PS X (.Pass pos) (TSo P W nxS) := psW ps_pass fun Dd σ H ⟨c, g, Z, R, p⟩ => p σ H Z (Same.refl _) R
theorem ms_break : PS X (.Break pos) (TSo P W bkS) := psW ps_break fun Dd σ H ⟨c, g, Z, R, p⟩ => p σ H Z (Same.refl _) R
theorem ms_cont : PS X (.Continue pos) (TSo P W ctS) := psW ps_continue fun Dd σ H ⟨c, g, Z, R, p⟩ => p σ H Z (Same.refl _) R
theorem ms_cons {s t : SM Fl} (h1 : PS X st (TSo P W s)) (h2 : PSs X rest (TSo P W t)) : PSs X (st :: rest) (TSo P W (seqS s t)) :=
  pssW (pss_cons h1 h2) fun Dd σ H ⟨c, g, Z, R, p⟩ => ⟨c, g, Z, R, post_mono (post_bnd.mp p) (fun fl g1 q => by
    cases fl with
    | nx => exact fun σ' H' Z' s' R' => ⟨c, g1, Z', R', post_mono q (fun fl g2 q => q.mono s') fun _ _ _ _ q => q⟩
    | rt e => exact q
    | bk => exact q
    | ct => exact q) fun _ _ _ _ q => q⟩
theorem ms_one {s : SM Fl} (h1 : PS X st (TSo P W s)) : PSs X [st] (TSo P W s) := pss_one h1
theorem ms_if {t : SM Bool} {s u : SM Fl} {p q : List Stmt} (hc : PT X e (TTo P W t)) (ha : PSs X p (TSo P W s)) (hb : PSs X q (TSo P W u)) : PS X (.If e p q pos) (TSo P W (ifS t s u)) :=
  psW (ps_if hc ha hb) fun Dd σ H ⟨c, g, Z, R, p⟩ => TTo.onS R p fun k g1 H1 Z1 s1 R1 p1 => by
    cases k with
    | true => exact ⟨c, g1, Z1, R1, post_mono p1 (fun fl g2 q => q.mono s1) fun _ _ _ _ q => q⟩
    | false => exact ⟨c, g1, Z1, R1, post_mono p1 (fun fl g2 q => q.mono s1) fun _ _ _ _ q => q⟩
theorem ms_expr {da : SM EV} (h : PE X e (TEo P W da)) (hs : swapsWith e none pos.line X.env = pure false := by rfl) : PS X (.Expr e pos) (TSo P W (exprS da)) :=
  psW (ps_expr h hs) fun Dd σ H ⟨c, g, Z, R, p⟩ => TEo.onS R p fun ev g1 v H1 Z1 s1 R1 vr p1 => p1 σ H1 Z1 s1 R1
theorem ms_ret {da : SM EV} (h : PE X e (TEo P W da)) : PS X (.Return (some e) pos) (TSo P W (retS da)) :=
  psW (ps_ret h) fun Dd σ H ⟨c, g, Z, R, p⟩ => TEo.onS R p fun ev g1 v H1 Z1 s1 R1 vr p1 => ret_ok R1 s1 vr p1
theorem ms_retN : PS X (.Return none pos) (TSo P W (ret (.rt (.fro .none)))) :=
  psW ps_retN fun Dd σ H ⟨c, g, Z, R, p⟩ => p .non σ H Z (Same.refl _) R .non
theorem ms_asg {i : Nat} {da : SM EV} {te : TE} (h : PS X st (tAsg te (gName i))) (w : ∀ σ H Q, TEo P W da σ H Q → te σ H Q) : PS X st (TSo P W (asgS i da)) :=
  psW h fun Dd σ H ⟨c, g, Z, R, p⟩ => w _ _ _ (TEo.onS R p fun ev g1 v H1 Z1 s1 R1 vr p1 => asg_ok R1 s1 vr p1)
end

/-! ## targets -/
/-- the slots of a target; how they are stored -/
inductive Tg where
  | one (i : Nat)
  | tup (is : List Nat)
def setL : List Nat → List D → SM Unit
  | [], [] => ret ()
  | i :: is, d :: ds => bnd (setS i (.fro d)) fun _ => setL is ds
  | _, _ => fun _ => .stuck
def Tg.put : Tg → D → SM Unit
  | .one i, d => bnd (setS i (.fro d)) fun _ => ret ()
  | .tup is, .tuple ds => setL is ds
  | .tup _, _ => fun _ => .stuck
def Tg.slots : Tg → List Nat
  | .one i => [i]
  | .tup is => is
/-- slots stored one after the other -/
def sets : List Nat → List V → St → St
  | i :: is, v :: vs, σ => sets is vs (σ.set i (some v))
  | _, _, σ => σ
def TGo (P : Pa) (t : Tg) : TG := fun v σ H Q => ∃ c g Z d, Rel P c g σ H Z ∧ Dq P.K Z v d ∧
  Post (fun _ g' => ∀ vs, Rel P c g' (sets t.slots vs σ) H Z → Q (sets t.slots vs σ) H) (fun _ _ _ _ => False) (t.put d g)
section
variable {X : Cx} {P : Pa} {c : Ctx} {e : Expr} {es : List Expr}
theorem setS_post {i : Nat} {s : Sl} {g : List Sl} {σ : St} {H Z : Hp} {v : V} {ok : Fl → List Sl → Prop} {ex : Nat → Str → D → List Sl → Prop} (R : Rel P c g σ H Z) (ok' : SlOk P c H Z (some (some v)) s)
    (hd : isO (some s) = true → ∀ a, v = .ref a → ∀ j : Nat, isO g[j]? = true → σ[j]? ≠ some (some (.ref a))) (hb : ∀ ds, s ≠ .bor ds)
    (p : Post ok ex (setS i s g)) : ∃ g', Rel P c g' (σ.set i (some v)) H Z ∧ ok .nx g' := by
  unfold setS at p
  cases es : g[i]? with
  | none => rw [es] at p; exact p.elim
  | some t =>
    rw [es] at p
    have hi : i < σ.length := by rw [← R.len]; exact (List.getElem?_eq_some_iff.mp es).1
    have R' : Rel P c (g.set i s) (σ.set i (some v)) H Z := R.put hi ok' (fun h a e j _ hj => hd h a (Option.some.inj e) j hj) hb
    cases t with
    | bor ds => exact p.elim
    | un => exact ⟨_, R', p⟩
    | fro _ => exact ⟨_, R', p⟩
    | own _ => exact ⟨_, R', p⟩
    | exc _ _ _ => exact ⟨_, R', p⟩
    | scr _ => exact ⟨_, R', p⟩
theorem setL_ok {H Z : Hp} : ∀ {is : List Nat} {ds : List D} {vs : List V} {g : List Sl} {σ : St} {ok : Unit → List Sl → Prop} {ex : Nat → Str → D → List Sl → Prop}, Rel P c g σ H Z → DqAll P.K Z vs ds → Post ok ex (setL is ds g) →
    vs.length = is.length ∧ ∃ g', Rel P c g' (sets is vs σ) H Z ∧ ok () g'
  | [], [], _, g, σ, ok, ex, R, h, p => by cases h; exact ⟨rfl, g, R, p⟩
  | i :: is, d :: ds, _, g, σ, ok, ex, R, h, p => by
    cases h with
    | cons h1 h2 =>
      obtain ⟨g1, R1, p1⟩ := setS_post (s := .fro d) R ⟨_, rfl, h1⟩ (fun z => nomatch z) (fun _ z => nomatch z) (post_bnd.mp p)
      obtain ⟨hl, g2, R2, p2⟩ := setL_ok R1 h2 p1
      exact ⟨by rw [List.length_cons, List.length_cons, hl], g2, R2, p2⟩
  | [], _ :: _, _, _, _, _, _, _, _, p => p.elim
  | _ :: _, [], _, _, _, _, _, _, _, p => p.elim
/-- the targets of a tuple, names alone -/
def gNames : List Nat → TGs
  | [] => gNil
  | i :: is => gCons (gName i) (gNames is)
theorem gNames_ok : ∀ {is : List Nat} {vs : List V} {σ : St} {H : Hp} {Q : St → Hp → Prop}, vs.length = is.length → Q (sets is vs σ) H → gNames is vs σ H Q
  | [], [], _, _, _, _, q => ⟨rfl, q⟩
  | i :: is, v :: vs, σ, H, Q, hl, q => ⟨v, vs, rfl, gNames_ok (Nat.succ.inj hl) q⟩
  | [], _ :: _, _, _, _, hl, _ => nomatch hl
  | _ :: _, [], _, _, _, hl, _ => nomatch hl
theorem pgW {t t' : TG} (h : PG X e t) (w : ∀ v σ H Q, t' v σ H Q → t v σ H Q) : PG X e t' := ⟨fun pins s σ H v u Q I r q => h.run pins s σ H v u Q I r (w v σ H Q q)⟩
theorem mg_name {i : Nat} (h : PG X e (gName i)) : PG X e (TGo P (.one i)) := pgW h fun v σ H Q ⟨c, g, Z, d, R, r, p⟩ => by
  obtain ⟨g1, R1, p1⟩ := setS_post (s := .fro d) (v := v) R ⟨v, rfl, r⟩ (fun z => nomatch z) (fun _ z => nomatch z) (post_bnd.mp p)
  exact p1 [v] R1
theorem mg_tup {n : Nat} {is : List Nat} (h : PG X e (gTup P.K n (gNames is))) (hn : is.length = n) : PG X e (TGo P (.tup is)) := pgW h fun v σ H Q ⟨c, g, Z, d, R, r, p⟩ => by
  cases d with
  | tuple ds =>
    cases r with
    | tup h1 h2 =>
      obtain ⟨hl, g1, R1, p1⟩ := setL_ok R h2 p
      exact ⟨_, _, rfl, seqT R.sub h1, hl.trans hn, gNames_ok hl (p1 _ R1)⟩
  | none => exact p.elim
  | bool _ => exact p.elim
  | int _ => exact p.elim
  | str _ => exact p.elim
  | list _ => exact p.elim
  | dict _ => exact p.elim
theorem tg_ok {t : Tg} {d : D} {v : V} {g : List Sl} {σ : St} {H Z : Hp} {ok : Unit → List Sl → Prop} {ex : Nat → Str → D → List Sl → Prop} (R : Rel P c g σ H Z) (r : Dq P.K Z v d) (p : Post ok ex (t.put d g)) :
    ∃ vs g', Rel P c g' (sets t.slots vs σ) H Z ∧ ok () g' := by
  cases t with
  | one i =>
    obtain ⟨g1, R1, p1⟩ := setS_post (s := .fro d) (v := v) R ⟨v, rfl, r⟩ (fun z => nomatch z) (fun _ z => nomatch z) (post_bnd.mp p)
    exact ⟨[v], g1, R1, p1⟩
  | tup is =>
    cases d with
    | tuple ds =>
      cases r with
      | tup h1 h2 =>
        obtain ⟨hl, g1, R1, p1⟩ := setL_ok R h2 p
        exact ⟨_, g1, R1, p1⟩
    | none => exact p.elim
    | bool _ => exact p.elim
    | int _ => exact p.elim
    | str _ => exact p.elim
    | list _ => exact p.elim
    | dict _ => exact p.elim
end
section
theorem put_noex {t : Tg} {d : D} {g : List Sl} {k f p g'} : t.put d g = .exn k f p g' → False := by
  have a : ∀ (i : Nat) (s : Sl) (g : List Sl) k f p g', setS i s g = .exn k f p g' → False := by
    intro i s g k f p g' h
    unfold setS at h
    split at h <;> cases h
  have b : ∀ (is : List Nat) (ds : List D) (g : List Sl) k f p g', setL is ds g = .exn k f p g' → False := by
    intro is
    induction is with
    | nil => intro ds g k f p g' h; cases ds <;> cases h
    | cons i is ih =>
      intro ds g k f p g' h
      cases ds with
      | nil => cases h
      | cons d ds =>
        unfold setL bnd at h
        cases e : setS i (.fro d) g with
        | ok x => rw [e] at h; exact ih _ _ _ _ _ _ h
        | exn k2 f2 p2 g2 => exact a _ _ _ _ _ _ _ e
        | stuck => rw [e] at h; cases h
  intro h
  cases t with
  | one i =>
    have h : bnd (setS i (.fro d)) (fun _ => ret ()) g = Res.exn k f p g' := h
    unfold bnd at h
    cases e : setS i (.fro d) g with
    | ok x => rw [e] at h; cases h
    | exn k2 f2 p2 g2 => exact a _ _ _ _ _ _ _ e
    | stuck => rw [e] at h; cases h
  | tup is =>
    cases d with
    | tuple ds => exact b _ _ _ _ _ _ _ h
    | none => cases h
    | bool _ => cases h
    | int _ => cases h
    | str _ => cases h
    | list _ => cases h
    | dict _ => cases h
theorem put_post {t : Tg} {d : D} {g : List Sl} {ok : Unit → List Sl → Prop} {ex ex' : Nat → Str → D → List Sl → Prop} (p : Post ok ex (t.put d g)) : Post ok ex' (t.put d g) := by
  cases e : t.put d g with
  | ok x => rw [e] at p; exact p
  | exn k f p' g' => exact (put_noex e).elim
  | stuck => rw [e] at p; exact p.elim
end

/-! ## what is walked -/
def YD (P : Pa) (Z H : Hp) (x : V) (H' : Hp) (d : D) : Prop :=
  (H' = H ∧ Dq P.K Z x d) ∨ ∃ T v w dv dw, x = .ref T ∧ H T = none ∧ H' = upd H T (.tup [v, w]) ∧ d = .tuple [dv, dw] ∧ Dq P.K Z v dv ∧ Dq P.K Z w dw
structure WalkD (P : Pa) (Z : Hp) (J : It) (ds : List D) : Prop where
  go : ∀ i H, i < ds.length → Same Z H → J.go i H
  stop : ∀ H, Same Z H → J.stop ds.length H
  yld : ∀ i H x H', i < ds.length → Same Z H → J.yld i H x H' → ∃ d, ds[i]? = some d ∧ YD P Z H x H' d
theorem WalkD.mono {P : Pa} {Z Z' : Hp} {J : It} {ds : List D} (w : WalkD P Z J ds) (s : Same Z Z') : WalkD P Z' J ds :=
  ⟨fun i H hi h => w.go i H hi (s.trans h), fun H h => w.stop H (s.trans h), fun i H x H' hi h y => by
    obtain ⟨d, e, yd⟩ := w.yld i H x H' hi (s.trans h) y
    refine ⟨d, e, ?_⟩
    rcases yd with ⟨e1, r⟩ | ⟨T, v, w', dv, dw, e1, e2, e3, e4, r1, r2⟩
    · exact .inl ⟨e1, dpM s r⟩
    · exact .inr ⟨T, v, w', dv, dw, e1, e2, e3, e4, dpM s r1, dpM s r2⟩⟩
def TIo (P : Pa) (W : WX) (de : SM (List D)) : TI := fun σ H R => ∃ c g Z, Rel P c g σ H Z ∧
  Post (fun ds g' => ∀ H' Z' J, Same Z Z' → Rel P c g' σ H' Z' → WalkD P Z' J ds → R J H') (exK P c σ W) (de g)
theorem piW {X : Cx} {tg e : Expr} {t t' : TI} (h : PI X tg e t) (w : ∀ σ H R, t' σ H R → t σ H R) : PI X tg e t' := ⟨fun pins s σ H R I q => h.run pins s σ H R I (w σ H R q)⟩
/-- an item comes: its new pair is frozen -/
theorem yd_in {P : Pa} {c : Ctx} {g : List Sl} {σ : St} {H Z H' : Hp} {x : V} {d : D} (R : Rel P c g σ H Z) (y : YD P Z H x H' d) : ∃ Z', Same Z Z' ∧ Rel P c g σ H' Z' ∧ Dq P.K Z' x d := by
  rcases y with ⟨rfl, r⟩ | ⟨T, v, w, dv, dw, rfl, e2, rfl, rfl, r1, r2⟩
  · exact ⟨Z, Same.refl _, R, r⟩
  · have s := same_new (o := .tup [v, w]) (R.zn e2)
    exact ⟨_, s, R.newZ e2, .tup (SqT.of upd_same) (.cons (dpM s r1) (.cons (dpM s r2) .nil))⟩

/-! ## for, while -/
def endF (fl : Fl) (k : SM Fl) : SM Fl := match fl with
  | .nx => k
  | .ct => k
  | .bk => ret .nx
  | .rt e => ret (.rt e)
def forL (t : Tg) (b : SM Fl) : List D → SM Fl
  | [] => ret .nx
  | d :: ds => bnd (t.put d) fun _ => bnd b fun fl => endF fl (forL t b ds)
def forS (it : SM (List D)) (t : Tg) (b : SM Fl) : SM Fl := bnd it fun ds => forL t b ds
def whL (t : SM Bool) (b : SM Fl) : Nat → SM Fl
  | 0 => fun _ => .stuck
  | n + 1 => bnd t fun c => if c then bnd b fun fl => endF fl (whL t b n) else ret .nx
def whS (fu : List Sl → Nat) (t : SM Bool) (b : SM Fl) : SM Fl := fun g => whL t b (fu g) g
section
variable {X : Cx} {P : Pa} {W : WX} {e tg iter : Expr} {body : List Stmt} {pos : Pos}
theorem ms_for {it : SM (List D)} {t : Tg} {b : SM Fl} (hp : PassesOwn (model X.prog X.w) X.A X.env X.xe) (hc : X.calm = true) (hi : PI X tg iter (TIo P W it)) (hg : PG X tg (TGo P t)) (hb : PSs X body (TSo P W b))
    (hs : ∀ x, foldedSetIterable iter X.env x = pure x := by intro _; rfl) : PS X (.For tg iter body [] pos) (TSo P W (forS it t b)) := by
  refine psW (ps_for hp hc hi hg hb hs) fun Dd σ H ⟨c, g, Z, R, p⟩ => ?_
  refine ⟨c, g, Z, R, post_mono (post_bnd.mp p) (fun ds g1 q H1 Z1 J s1 R1 w => ?_) fun _ _ _ _ q => exS_K q⟩
  refine ⟨fun i m σ' H' => m = ds.length - i ∧ i ≤ ds.length ∧ ∃ g' Z', Same Z1 Z' ∧ Rel P c g' σ' H' Z' ∧ Post (fun fl g' => FlP P c Dd Z g' fl) (exS P c W) (forL t b (ds.drop i) g'),
    ⟨_, rfl, Nat.zero_le _, g1, Z1, Same.refl _, R1, q⟩, ?_⟩
  rintro i m σ' H' ⟨rfl, hi, g', Z', s', R', q'⟩
  have w' := w.mono s'
  by_cases hlt : i < ds.length
  · refine .inr ⟨w'.go i H' hlt R'.sub, fun σ2 H2 => i + 1 ≤ ds.length ∧ ∃ g' Z', Same Z1 Z' ∧ Rel P c g' σ2 H2 Z' ∧ Post (fun fl g' => FlP P c Dd Z g' fl) (exS P c W) (forL t b (ds.drop (i + 1)) g'),
      fun σ2 H2 ⟨h1, q2⟩ => ⟨ds.length - (i + 1), by omega, rfl, h1, q2⟩, fun x H2 y => ?_⟩
    obtain ⟨d, ed, yd⟩ := w'.yld i H' x H2 hlt R'.sub y
    obtain ⟨Z2, s2, R2, r2⟩ := yd_in R' yd
    have edr : ds.drop i = d :: ds.drop (i + 1) := by
      rw [List.drop_eq_getElem_cons hlt]
      rw [List.getElem?_eq_getElem hlt] at ed
      rw [Option.some.inj ed]
    rw [edr] at q'
    have q2 := post_bnd.mp q'
    refine ⟨c, g', Z2, d, R2, r2, put_post (ex := exS P c W) (post_mono q2 (fun _ g3 q3 vs R3 => ?_) fun _ _ _ _ q => q)⟩
    refine ⟨c, g3, Z2, R3, post_mono (post_bnd.mp q3) (fun fl g4 q4 => ?_) fun _ _ _ _ q => q⟩
    cases fl with
    | nx => exact fun σ5 H5 Z5 s5 R5 => ⟨hlt, g4, Z5, (s'.trans s2).trans s5, R5, q4⟩
    | ct => exact fun σ5 H5 Z5 s5 R5 => ⟨hlt, g4, Z5, (s'.trans s2).trans s5, R5, q4⟩
    | bk => exact fun σ5 H5 Z5 s5 R5 => q4 σ5 H5 Z5 (s1.trans ((s'.trans s2).trans s5)) R5
    | rt ev => exact fun v σ5 H5 Z5 s5 R5 r5 => q4 v σ5 H5 Z5 (s1.trans ((s'.trans s2).trans s5)) R5 r5
  · have e : i = ds.length := by omega
    subst e
    rw [List.drop_length] at q'
    exact .inl ⟨w'.stop H' R'.sub, q' σ' H' Z' (s1.trans s') R'⟩
theorem ms_while {fu : List Sl → Nat} {t : SM Bool} {b : SM Fl} (hp : PassesOwn (model X.prog X.w) X.A X.env X.xe) (hc : PT X e (TTo P W t)) (hb : PSs X body (TSo P W b)) : PS X (.While e body [] pos) (TSo P W (whS fu t b)) := by
  refine psW (ps_while hp hc hb) fun Dd σ H ⟨c, g, Z, R, p⟩ => ?_
  refine ⟨fun m σ' H' => ∃ g' Z', Same Z Z' ∧ Rel P c g' σ' H' Z' ∧ Post (fun fl g' => FlP P c Dd Z g' fl) (exS P c W) (whL t b m g'), ⟨fu g, g, Z, Same.refl _, R, p⟩, ?_⟩
  rintro m σ' H' ⟨g', Z', s', R', q'⟩
  cases m with
  | zero => exact q'.elim
  | succ m =>
    refine TTo.onS R' q' fun k g1 H1 Z1 s1 R1 p1 => ?_
    cases k with
    | false => exact p1 σ' H1 Z1 (s'.trans s1) R1
    | true =>
      refine ⟨fun σ2 H2 => ∃ g' Z', Same Z Z' ∧ Rel P c g' σ2 H2 Z' ∧ Post (fun fl g' => FlP P c Dd Z g' fl) (exS P c W) (whL t b m g'), fun σ2 H2 q2 => ⟨m, Nat.lt_succ_self _, q2⟩, ?_⟩
      refine ⟨c, g1, Z1, R1, post_mono (post_bnd.mp p1) (fun fl g4 q4 => ?_) fun _ _ _ _ q => q⟩
      cases fl with
      | nx => exact fun σ5 H5 Z5 s5 R5 => ⟨g4, Z5, (s'.trans s1).trans s5, R5, q4⟩
      | ct => exact fun σ5 H5 Z5 s5 R5 => ⟨g4, Z5, (s'.trans s1).trans s5, R5, q4⟩
      | bk => exact fun σ5 H5 Z5 s5 R5 => q4 σ5 H5 Z5 ((s'.trans s1).trans s5) R5
      | rt ev => exact fun v σ5 H5 Z5 s5 R5 r5 => q4 v σ5 H5 Z5 ((s'.trans s1).trans s5) R5 r5
end
end Mw
namespace Mw
open PySem L2 PySem.Spec PyProof.Rows

/-! ## try with several clauses, with and without a name -/
abbrev TSuite := Addr → Value → Option Addr → TS
/-- the ends of a suite whose name (slot i) is taken away behind it -/
def dropEnd (i : Nat) (D : Ends) : Ends := { nx := fun σ H => D.nx (σ.set i none) H, rt := D.rt, bk := fun σ H => D.bk (σ.set i none) H, ct := fun σ H => D.ct (σ.set i none) H }
def wCl (K : PySem.W.Frag) (Wout : WX) (D : Ends) : List (Value × Option Nat × TSuite) → WX
  | [] => Wout
  | (c, none, ts) :: r => fun cls d σ H => ∃ b, PySem.W.exmOne K cls c = some b ∧ (b = true → ∀ a, H a = none → ts a cls d D σ H) ∧ (b = false → wCl K Wout D r cls d σ H)
  | (c, some i, ts) :: r => fun cls d σ H => ∃ b, PySem.W.exmOne K cls c = some b ∧ (b = true → ∀ a, H a = none → ts a cls d (dropEnd i D) (σ.set i (some (.ref a))) H) ∧ (b = false → wCl K Wout D r cls d σ H)
def SuiteOk (X : Cx) (ss : List Stmt) (ts : TSuite) : Prop :=
  ∀ (a : Addr) (oe : Obj) (cls : Value) (d : Option Addr) (pn : List (Addr × Obj)), Zc cls d oe → (∃ vs, oe.data = .fields vs) → PSs (X.suite a ((a, oe) :: pn)) ss (ts a cls d)
inductive ClsOk (X : Cx) : List ExceptHandler → List (Value × Option Nat × TSuite) → Prop
  | nil : ClsOk X [] []
  | plain {x : Str} {c : Value} {ts : TSuite} {b₀ : Stmt} {ss : List Stmt} {p1 p2 : Pos} {hds : List ExceptHandler} {l : List (Value × Option Nat × TSuite)}
      (hc : Names X x c) (hs : SuiteOk X (b₀ :: ss) ts) (r : ClsOk X hds l) : ClsOk X (.ExceptHandler (some (.Name x p1)) none (b₀ :: ss) p2 :: hds) ((c, none, ts) :: l)
  | named {x n : Str} {i : Nat} {c : Value} {ts : TSuite} {b₀ : Stmt} {ss : List Stmt} {p1 p2 : Pos} {hds : List ExceptHandler} {l : List (Value × Option Nat × TSuite)}
      (hc : Names X x c) (hi : X.N[i]? = some n) (hl : X.env.kindOf n = some .local) (hs : SuiteOk X (b₀ :: ss) ts) (r : ClsOk X hds l) : ClsOk X (.ExceptHandler (some (.Name x p1)) (some n) (b₀ :: ss) p2 :: hds) ((c, some i, ts) :: l)
/-- an error of the body has come down in the frame that handles it -/
structure Landed (X : Cx) (pins : List (Addr × Obj)) (σ : L2.St) (H : Hp) (sI s : Shared) (B : Heap) (a : Addr) (cls : Value) (d : Option Addr) : Prop where
  inv : Inv X pins σ H sI
  nb : ∀ b o, sI.heap.get? b = some o → b ∉ frs X.stack → B.get? b = some o
  up : sI.heap.UpToSlots s.heap
  fly : HandSPX.FlyingZ B (X.env :: X.outer) a (Zc cls d) s.heap
  na : H a = none
  os : s.os = sI.os
  ag : AllBare s.gens
section
variable {X : Cx} {pins : List (Addr × Obj)} {σ : L2.St} {H : Hp} {sI s : Shared} {B : Heap} {a : Addr} {cls : Value} {d : Option Addr}
theorem Landed.now (L : Landed X pins σ H sI s B a cls d) : Inv X pins σ H s := L.inv.landed L.nb L.fly.1 L.up L.os L.ag
theorem Landed.held (L : Landed X pins σ H sI s B a cls d) (hf : X.env.frame = some X.env.locals) :
    ∃ oe, s.heap.get? a = some oe ∧ Zc cls d oe ∧ (∃ vs, oe.data = .fields vs) ∧ Inv (X.suite a ((a, oe) :: (X.pn ++ pins))) [] σ H s := by
  obtain ⟨oe, vs, he, hz, hd⟩ := L.fly.there
  have far : a ∉ frs (X.env :: X.outer) := fun hm => by
    obtain ⟨_, ob, e, nf⟩ := L.fly.2.2.1.mem hm
    rw [he] at e; cases e
    exact nf _ hd
  have n1 : a ≠ X.env.locals := fun z => far (List.mem_filterMap.mpr ⟨X.env, List.mem_cons_self, by rw [hf, z]⟩)
  have n2 : a ∉ X.fs := fun hm => by
    obtain ⟨e, h1, h2⟩ := List.mem_filterMap.mp hm
    exact far (List.mem_filterMap.mpr ⟨e, List.mem_cons_of_mem _ h1, h2⟩)
  exact ⟨oe, he, hz, ⟨vs, hd⟩, L.now.suite he hd L.na n1 n2⟩
theorem Landed.again (L : Landed X pins σ H sI s B a cls d) {h' : Heap} (fl : HandSPX.FlyingZ B (X.env :: X.outer) a (Zc cls d) h') (u : s.heap.UpToSlots h') : Landed X pins σ H sI { s with heap := h' } B a cls d :=
  ⟨L.inv, L.nb, L.up.trans u, fl, L.na, L.os, L.ag⟩
/-- no clause is left: it flies on -/
theorem Landed.on (L : Landed X pins σ H sI s B a cls d) (hs : X.stack = X.env :: X.outer) (hf : X.env.frame = some X.env.locals) {Wout : WX} (tk : Takes X Wout) {D : Ends} (w : Wout cls d σ H) :
    wpAny (model X.prog X.w) X.A (handleBy (.ref a) X.env []) (SP X pins D) X.xe s := by
  refine wpAny_handleBy_nil ?_
  obtain ⟨_, _, _, oe, vs, T, oT, ts', he, hz, hd, h1, hr⟩ := id L.fly
  have fin : wpAny (model X.prog X.w) X.A (setFlight (.ref a) X.env.frame) (fun _ s4 => wpAny (model X.prog X.w) X.A (throw (.ref a) : Sem Flow) (SP X pins D) X.xe s4) X.xe s := by
    rw [hf]
    refine HandSPX.setFlight_upZ L.fly fun h4 hh up4 => wpAny_throw (tk _ _ ?_)
    exact ⟨a, B, sI, pins, σ, H, cls, d, rfl, L.inv, L.nb, L.up.trans up4, .inr (.inr (by rw [hs]; exact hh)), L.na, L.os, L.ag, w⟩
  unfold PySem.passOn
  refine wpAny_bind (wpAny_field he hd h1 ?_)
  rw [if_neg (show ¬ ((Value.ref T == Value.none) = true) from by simp)]
  first
    | exact wpAny_bind fin
    | exact wpAny_bind (wpAny_pure (wpAny_bind fin))
/-- the clause's name is looked up, the error held against it -/
theorem Landed.ask (L : Landed X pins σ H sI s B a cls d) (hf : X.env.frame = some X.env.locals) {x : Str} {c : Value} {p1 : Pos} {b : Bool} (hc : Names X x c) (hb : PySem.W.exmOne X.K cls c = some b) {Q : Bool → Shared → Prop} {E : Value → Shared → Prop} (q : Q b s) :
    wpAny (model X.prog X.w) (X.A.mark (some (.ref a))) (eval (.Name x p1) X.env) (fun v s' => wpAny (model X.prog X.w) (X.A.mark (some (.ref a))) (excMatches (.ref a) v) Q E s') E s := by
  obtain ⟨oe, he, hz, _, S⟩ := L.held hf
  have LT : PySem.W.Looks (model X.prog X.w) s.heap (typeOf (.ref a)) cls := fun A Q E s k q => wpAny_typeOf_ref (k _ _ he) (by rw [hz.1]; exact q)
  have LM := PySem.W.exm_one (M := model X.prog X.w) L.now.kIn LT hb
  obtain ⟨hg, hdb, hm | ⟨hm, hv, hn⟩⟩ := hc
  · exact ld_glob (X := X.suite a ((a, oe) :: (X.pn ++ pins))) S hg hm (LM.here q) hdb
  · exact ld_blt (X := X.suite a ((a, oe) :: (X.pn ++ pins))) S hg hm hv (LM.here q) hn hdb
end
theorem clauses_ok {X : Cx} (hs : X.stack = X.env :: X.outer) (hf : X.env.frame = some X.env.locals) (hN : X.N.Nodup) {Wout : WX} (tk : Takes X Wout) {D : Ends} {hds : List ExceptHandler} {l : List (Value × Option Nat × TSuite)} (hk : ClsOk X hds l) :
    ∀ {pins : List (Addr × Obj)} {σ : L2.St} {H : Hp} {sI s : Shared} {B : Heap} {a : Addr} {cls : Value} {d : Option Addr}, Landed X pins σ H sI s B a cls d → wCl X.K Wout D l cls d σ H →
      wpAny (model X.prog X.w) X.A (handleBy (.ref a) X.env hds) (SP X pins D) X.xe s := by
  induction hk with
  | nil => exact fun L w => L.on hs hf tk w
  | plain hc hsu r ih =>
    intro pins σ H sI s B a cls d L w
    obtain ⟨b, hb, yes, no⟩ := w
    refine wpAny_handleBy_cons (codeAny_handlers_test (L.ask hf hc hb ?_)) (fun q => nomatch q)
    cases b with
    | false => exact ih L (no rfl)
    | true =>
      refine codeAny_handlers_suite (HandSPX.lands_againZ L.fly fun h4 fl4 up4 => ?_)
      obtain ⟨oe, he, hz, hd, S⟩ := (L.again fl4 up4).held hf
      refine wpAny_mono ((hsu a oe cls d _ hz hd).run [] _ _ H _ S (yes rfl a L.na)) (fun f s6 q => ?_) fun _ _ z => z.elim
      cases f with
      | next => obtain ⟨σ6, H6, S6, q6⟩ := q; exact ⟨σ6, H6, S6.unsuite L.inv.ok, q6⟩
      | brk => obtain ⟨σ6, H6, S6, q6⟩ := q; exact ⟨σ6, H6, S6.unsuite L.inv.ok, q6⟩
      | cont => obtain ⟨σ6, H6, S6, q6⟩ := q; exact ⟨σ6, H6, S6.unsuite L.inv.ok, q6⟩
      | ret u => obtain ⟨v6, σ6, H6, S6, r6, q6⟩ := q; exact ⟨v6, σ6, H6, S6.unsuite L.inv.ok, r6, q6⟩
  | named hc hi hl hsu r ih =>
    intro pins σ H sI s B a cls d L w
    obtain ⟨b, hb, yes, no⟩ := w
    refine wpAny_handleBy_cons (codeAny_handlers_test (L.ask hf hc hb ?_)) (fun q => nomatch q)
    cases b with
    | false => exact ih L (no rfl)
    | true =>
      refine codeAny_handlers_suite_as (HandSPX.lands_againZ L.fly fun h4 fl4 up4 => ?_)
      obtain ⟨oe, he, hz, hd, S⟩ := (L.again fl4 up4).held hf
      refine store_ok (X := X.suite a ((a, oe) :: (X.pn ++ pins))) (v := .ref a) S hN hi (.inl hl) rfl (fun s5 S5 => ?_) (.inr hl)
      refine wpAny_mono ((hsu a oe cls d _ hz hd).run [] s5 _ H _ S5 (yes rfl a L.na)) (fun f s6 q => ?_) fun _ _ z => z.elim
      cases f with
      | next => obtain ⟨σ6, H6, S6, q6⟩ := q; exact gone_ok (S6.unsuite L.inv.ok) hN hi hl fun s7 J7 => ⟨_, H6, J7, q6⟩
      | brk => obtain ⟨σ6, H6, S6, q6⟩ := q; exact gone_ok (S6.unsuite L.inv.ok) hN hi hl fun s7 J7 => ⟨_, H6, J7, q6⟩
      | cont => obtain ⟨σ6, H6, S6, q6⟩ := q; exact gone_ok (S6.unsuite L.inv.ok) hN hi hl fun s7 J7 => ⟨_, H6, J7, q6⟩
      | ret u => obtain ⟨v6, σ6, H6, S6, r6, q6⟩ := q; exact gone_ok (S6.unsuite L.inv.ok) hN hi hl fun s7 J7 => ⟨v6, _, H6, J7, r6, q6⟩
theorem ps_try_cl {X : Cx} {body : List Stmt} {h₀ : ExceptHandler} {hds : List ExceptHandler} {l : List (Value × Option Nat × TSuite)} {pos : Pos} {tb : WX → TS} {Wout : WX}
    (hs : X.stack = X.env :: X.outer) (hf : X.env.frame = some X.env.locals) (hN : X.N.Nodup) (tk : Takes X Wout)
    (hb : ∀ (W : WX) (pn : List (Addr × Obj)) (xe : Value → Shared → Prop), Takes (X.tr pn xe) W → PassesOwn (model X.prog X.w) X.A X.env xe → PSs (X.tr pn xe) body (tb W))
    (hk : ClsOk X (h₀ :: hds) l) : PS X (.Try body (h₀ :: hds) [] [] pos) (fun D σ H => tb (wCl X.K Wout D l) D σ H) := by
  refine ⟨fun pins s σ H D I h => wpAny_Try_except ?_⟩
  have fr : X.A.frames = some (X.env :: X.outer) := by rw [I.ok.frames, hs]
  refine wpAny_mono ((hb (wCl X.K Wout D l) (X.pn ++ pins) _ (fun u s' xx => ?_) PassesOwn.looking).run [] s σ H D (I.toTry _) h) (fun f s1 q => ?_) fun _ _ q => q
  · obtain ⟨a, B, sI, pins', σ', H', cls, d, rfl, J, nb, up, sky, na, os, ag, w⟩ := xx
    refine Sky.land Zc.steady fr hf (by rw [← hs]; exact sky) fun h3 fl3 up3 => ?_
    exact clauses_ok hs hf hN tk hk ⟨J.ofTry I.ok, nb, up.trans up3, fl3, na, os, ag⟩ w
  · cases f with
    | next => obtain ⟨σ', H', J, q⟩ := q; exact wpAny_execs_nil ⟨σ', H', J.ofTry I.ok, q⟩
    | brk => obtain ⟨σ', H', J, q⟩ := q; exact ⟨σ', H', J.ofTry I.ok, q⟩
    | cont => obtain ⟨σ', H', J, q⟩ := q; exact ⟨σ', H', J.ofTry I.ok, q⟩
    | ret u => obtain ⟨v, σ', H', J, r, q⟩ := q; exact ⟨v, σ', H', J.ofTry I.ok, r, q⟩
end Mw
namespace Mw
open PySem L2

/-! ## defs: what they promise, how they are called -/
inductive FR where
  | ok (ev : EV) (b : Option (List D))
  | exn (c : Nat) (f : Str) (p : D) (b : Option (List D))
  | stuck
abbrev Fd := List Sl → FR
def borOf (g : List Sl) : Option (List D) := match g with
  | .bor ds :: _ => some ds
  | _ => none
def chk (as g : List Sl) (r : FR) : FR := match borOf as, borOf g with
  | some _, none => .stuck
  | _, _ => r
def flEv : Fl → Option EV
  | .nx => some (.fro .none)
  | .rt (.fro d) => some (.fro d)
  | .rt (.own ds) => some (.own ds)
  | _ => none
def fdD (m : Nat) (body : SM Fl) : Fd := fun as => match body (as ++ List.replicate m .un) with
  | .ok (fl, g) => (match flEv fl with
    | some ev => chk as g (.ok ev (borOf g))
    | none => .stuck)
  | .exn k f p g => chk as g (.exn k f p (borOf g))
  | .stuck => .stuck
inductive FroL (K : PySem.W.Frag) (Z : Hp) : List V → List Sl → Prop
  | nil : FroL K Z [] []
  | fro {v : V} {vs : List V} {d : D} {as : List Sl} (h : Dq K Z v d) (r : FroL K Z vs as) : FroL K Z (v :: vs) (.fro d :: as)
  | scr {a : Addr} {vs : List V} {ns : List Int} {as : List Sl} (h : SqL K Z a (ns.map V.int)) (r : FroL K Z vs as) : FroL K Z (.ref a :: vs) (.scr ns :: as)
inductive ArgsOk (K : PySem.W.Frag) (H Z : Hp) : Option Addr → List V → List Sl → Prop
  | none {vs : List V} {as : List Sl} (h : FroL K Z vs as) : ArgsOk K H Z none vs as
  | some {a : Addr} {ws : List V} {ds : List D} {vs : List V} {as : List Sl} (h1 : H a = some (.lst ws)) (h2 : Z a = none) (r : DqAll K Z ws ds) (h : FroL K Z vs as) : ArgsOk K H Z (some a) (.ref a :: vs) (.bor ds :: as)
/-- what a def leaves: the frozen part is grown by new objects, all that stood stands but the borrowed list -/
structure Left (K : PySem.W.Frag) (H Z : Hp) (B : Option Addr) (b : Option (List D)) (H' Z' : Hp) : Prop where
  sz : Same Z Z'
  sub : Same Z' H'
  zf : ∀ a x, H a = some x → Z' a = Z a
  fr : ∀ a x, H a = some x → B ≠ some a → H' a = some x
  bo : ∀ a, B = some a → ∃ ds ws, b = some ds ∧ H' a = some (.lst ws) ∧ DqAll K Z' ws ds
def ResV (K : PySem.W.Frag) (H H' Z' : Hp) (v : V) : EV → Prop
  | .fro d => Dq K Z' v d
  | .own ds => ∃ a vs, v = .ref a ∧ H' a = some (.lst vs) ∧ Z' a = none ∧ H a = none ∧ DqAll K Z' vs ds
  | .var _ => False
def SpD (K : PySem.W.Frag) (cA : Nat → Addr) (n : Nat) (f : Fd) : Sp := fun vs H Q E => ∃ as Z B, as.length = n ∧ Same Z H ∧ ArgsOk K H Z B vs as ∧
  match f as with
  | .ok ev b => ∀ v H' Z', Left K H Z B b H' Z' → ResV K H H' Z' v ev → Q v H'
  | .exn k x p b => ∀ dd v H' Z', Left K H Z B b H' Z' → Z' dd = some (.xd [(x, v)]) → Dq K Z' v p → E (.ref (cA k)) (some dd) H'
  | .stuck => False
theorem froL_len {K : PySem.W.Frag} {Z : Hp} : ∀ {vs : List V} {as : List Sl}, FroL K Z vs as → vs.length = as.length
  | _, _, .nil => rfl
  | _, _, .fro _ r => by rw [List.length_cons, List.length_cons, froL_len r]
  | _, _, .scr _ r => by rw [List.length_cons, List.length_cons, froL_len r]
theorem argsOk_len {K : PySem.W.Frag} {H Z : Hp} {B : Option Addr} {vs : List V} {as : List Sl} (h : ArgsOk K H Z B vs as) : vs.length = as.length := by
  cases h with
  | none h => exact froL_len h
  | some _ _ _ h => rw [List.length_cons, List.length_cons, froL_len h]
theorem froL_sl {P : Pa} {c : Ctx} {H Z : Hp} : ∀ {vs : List V} {as : List Sl}, FroL P.K Z vs as → ∀ (i : Nat) (s : Sl), as[i]? = some s → SlOk P c H Z ((vs.map some)[i]?) s ∧ isO (some s) = false ∧ ∀ ds, s ≠ .bor ds
  | _, _, .nil, i, s, e => by simp at e
  | _, _, .fro h r, 0, s, e => by cases e; exact ⟨⟨_, rfl, h⟩, rfl, fun _ z => nomatch z⟩
  | _, _, .scr h r, 0, s, e => by cases e; exact ⟨⟨_, rfl, h⟩, rfl, fun _ z => nomatch z⟩
  | _, _, .fro h r, i + 1, s, e => froL_sl r i s (by simpa using e)
  | _, _, .scr h r, i + 1, s, e => froL_sl r i s (by simpa using e)
theorem repl_get {α : Type} {n i : Nat} {x y : α} (h : (List.replicate n x)[i]? = some y) : y = x := by
  have := List.mem_of_getElem? h
  exact (List.mem_replicate.mp this).2
/-- the entry of a def -/
theorem rel_start {P : Pa} {H Z : Hp} {B : Option Addr} {vs : List V} {as : List Sl} {N : List Str} (s : Same Z H) (h : ArgsOk P.K H Z B vs as) (hN : vs.length ≤ N.length) :
    Rel P ⟨H, Z, B⟩ (as ++ List.replicate (N.length - vs.length) .un) (L2.start N vs) H Z := by
  have hl := argsOk_len h
  have key : ∀ (i : Nat) (t : Sl), (as ++ List.replicate (N.length - vs.length) .un)[i]? = some t → (t = .un ∨ as[i]? = some t) := fun i t e => by
    by_cases hi : i < as.length
    · rw [List.getElem?_append_left hi] at e; exact .inr e
    · rw [List.getElem?_append_right (by omega)] at e; exact .inl (repl_get e)
  have stt : ∀ i : Nat, i < as.length → (L2.start N vs)[i]? = (vs.map some)[i]? := fun i hi => by
    unfold L2.start
    rw [List.getElem?_append_left (by rw [List.length_map]; omega)]
  have main : (∀ (i : Nat) (t : Sl), as[i]? = some t → SlOk P ⟨H, Z, B⟩ H Z ((vs.map some)[i]?) t ∧ isO (some t) = false ∧ ∀ ds, t = .bor ds → i = 0) ∧ (∀ a, B = some a → ∃ ws, H a = some (.lst ws)) := by
    cases h with
    | none h => exact ⟨fun i t e => by obtain ⟨h1, h2, h3⟩ := froL_sl (P := P) (c := ⟨H, Z, none⟩) (H := H) h i t e; exact ⟨h1, h2, fun ds z => absurd z (h3 ds)⟩, fun a z => nomatch z⟩
    | @some a ws ds vs as h1 h2 r h =>
      refine ⟨fun i t e => ?_, fun b z => by cases z; exact ⟨ws, h1⟩⟩
      cases i with
      | zero => cases e; exact ⟨⟨a, ws, rfl, h1, h2, rfl, r⟩, rfl, fun _ _ => rfl⟩
      | succ i => obtain ⟨h1, h2, h3⟩ := froL_sl (P := P) (c := ⟨H, Z, some a⟩) (H := H) h i t (by simpa using e); exact ⟨by simpa using h1, h2, fun ds z => absurd z (h3 ds)⟩
  refine ⟨s, fun _ _ _ => rfl, fun _ _ e _ => e, fun a e => ?_, ?_, fun i t e => ?_, fun i j a _ hi _ _ => ?_, fun i ds e => ?_⟩
  · obtain ⟨ws, e2⟩ := main.2 a e
    exact ⟨⟨ws, e2⟩, _, e2⟩
  · unfold L2.start
    rw [List.length_append, List.length_append, List.length_map, List.length_replicate, List.length_replicate, hl]
  · rcases key i t e with rfl | e2
    · trivial
    · rw [stt i (List.getElem?_eq_some_iff.mp e2).1]; exact (main.1 i t e2).1
  · exfalso
    cases e : (as ++ List.replicate (N.length - vs.length) .un)[i]? with
    | none => rw [e] at hi; cases hi
    | some t =>
      rw [e] at hi
      rcases key i t e with rfl | e2
      · cases hi
      · rw [(main.1 i t e2).2.1] at hi; cases hi
  · rcases key i _ e with z | e2
    · cases z
    · exact (main.1 i _ e2).2.2 ds rfl
theorem left_of {P : Pa} {H0 Z0 : Hp} {B : Option Addr} {g : List Sl} {σ : St} {H Z : Hp} (R : Rel P ⟨H0, Z0, B⟩ g σ H Z) (sz : Same Z0 Z) (hb : ∀ a, B = some a → ∃ ds r, g = .bor ds :: r) : Left P.K H0 Z0 B (borOf g) H Z := by
  refine ⟨sz, R.sub, R.zf, fun a x e hn => R.fr a x e hn, fun a e => ?_⟩
  obtain ⟨ds, r, rfl⟩ := hb a e
  obtain ⟨a', vs, e1, h1, h2, h3, rr⟩ := R.sl 0 (.bor ds) rfl
  have h3 : B = some a' := h3
  rw [e] at h3; cases h3
  exact ⟨ds, vs, rfl, h1, rr⟩
theorem chk_ok {as g : List Sl} {r : FR} (h : chk as g r ≠ .stuck) : chk as g r = r ∧ ((borOf as).isSome = true → ∃ ds t, g = .bor ds :: t) := by
  unfold chk at h ⊢
  cases e1 : borOf as with
  | none => exact ⟨rfl, fun z => nomatch z⟩
  | some x =>
    cases e2 : borOf g with
    | none => rw [e1, e2] at h; exact (h rfl).elim
    | some y =>
      refine ⟨rfl, fun _ => ?_⟩
      cases g with
      | nil => cases e2
      | cons s t =>
        cases s with
        | bor ds => exact ⟨ds, t, rfl⟩
        | un => cases e2
        | fro _ => cases e2
        | own _ => cases e2
        | exc _ _ _ => cases e2
        | scr _ => cases e2
theorem args_bor {K : PySem.W.Frag} {H Z : Hp} {a : Addr} {vs : List V} {as : List Sl} (h : ArgsOk K H Z (some a) vs as) : (borOf as).isSome = true := by
  cases h with
  | some _ _ _ _ => rfl
/-- what is wanted of a def's answer -/
def FRP (K : PySem.W.Frag) (cA : Nat → Addr) (H Z : Hp) (B : Option Addr) (Q : VK) (E : XK) : FR → Prop
  | .ok ev b => ∀ v H' Z', Left K H Z B b H' Z' → ResV K H H' Z' v ev → Q v H'
  | .exn k x p b => ∀ dd v H' Z', Left K H Z B b H' Z' → Z' dd = some (.xd [(x, v)]) → Dq K Z' v p → E (.ref (cA k)) (some dd) H'
  | .stuck => False
theorem spD_frp {K : PySem.W.Frag} {cA : Nat → Addr} {n : Nat} {f : Fd} {vs : List V} {H : Hp} {Q : VK} {E : XK} (h : SpD K cA n f vs H Q E) : ∃ as Z B, as.length = n ∧ Same Z H ∧ ArgsOk K H Z B vs as ∧ FRP K cA H Z B Q E (f as) := by
  obtain ⟨as, Z, B, h1, h2, h3, h4⟩ := h
  refine ⟨as, Z, B, h1, h2, h3, ?_⟩
  cases e : f as with
  | ok ev b => rw [e] at h4; exact h4
  | exn k x p b => rw [e] at h4; exact h4
  | stuck => rw [e] at h4; exact h4
theorem frp_spD {K : PySem.W.Frag} {cA : Nat → Addr} {n : Nat} {f : Fd} {vs : List V} {H : Hp} {Q : VK} {E : XK} {as : List Sl} {Z : Hp} {B : Option Addr} (h1 : as.length = n) (h2 : Same Z H) (h3 : ArgsOk K H Z B vs as) (h : FRP K cA H Z B Q E (f as)) : SpD K cA n f vs H Q E := by
  refine ⟨as, Z, B, h1, h2, h3, ?_⟩
  cases e : f as with
  | ok ev b => rw [e] at h; exact h
  | exn k x p b => rw [e] at h; exact h
  | stuck => rw [e] at h; exact h
/-- a body's reading gives the promise -/
theorem fn_ts {P : Pa} {N : List Str} {n : Nat} {body : SM Fl} {vs : List V} {H : Hp} {Q : VK} {E : XK} (hn : n ≤ N.length) (h : SpD P.K P.cA n (fdD (N.length - n) body) vs H Q E) :
    TSo P (fun cls d _ H => E cls d H) body { nx := fun _ H' => Q .non H', rt := Q } (L2.start N vs) H := by
  obtain ⟨as, Z, B, h1, h2, h3, h4⟩ := spD_frp h
  have hl := argsOk_len h3
  have R := rel_start (P := P) (N := N) h2 h3 (by omega)
  rw [show N.length - vs.length = N.length - n by omega] at R
  refine ⟨_, _, Z, R, ?_⟩
  unfold fdD at h4
  have hb : ∀ {g : List Sl} {r : FR}, FRP P.K P.cA H Z B Q E (chk as g r) → chk as g r = r ∧ ∀ a, B = some a → ∃ ds t, g = .bor ds :: t := fun {g r} q => by
    obtain ⟨e1, e2⟩ := chk_ok (as := as) (g := g) (r := r) fun z => by rw [z] at q; exact q
    exact ⟨e1, fun a ea => by subst ea; exact e2 (args_bor h3)⟩
  cases e : body (as ++ List.replicate (N.length - n) .un) with
  | stuck => rw [e] at h4; exact h4
  | exn k f p g =>
    rw [e] at h4
    have h4 : FRP P.K P.cA H Z B Q E (chk as g (.exn k f p (borOf g))) := h4
    obtain ⟨ec, hb'⟩ := hb h4
    rw [ec] at h4
    intro dd v σ' H' Z' ez r R'
    have s' : Same Z Z' := fun b x e2 => (R'.zf b x (h2 b x e2)).trans e2
    exact h4 dd v H' Z' (left_of R' s' hb') ez r
  | ok x =>
    obtain ⟨fl, g⟩ := x
    rw [e] at h4
    cases fl with
    | nx =>
      have h4 : FRP P.K P.cA H Z B Q E (chk as g (.ok (.fro .none) (borOf g))) := h4
      obtain ⟨ec, hb'⟩ := hb h4
      rw [ec] at h4
      exact fun σ' H' Z' s' R' => h4 .non H' Z' (left_of R' s' hb') .non
    | bk => exact h4.elim
    | ct => exact h4.elim
    | rt ev =>
      cases ev with
      | var i => exact h4.elim
      | fro d =>
        have h4 : FRP P.K P.cA H Z B Q E (chk as g (.ok (.fro d) (borOf g))) := h4
        obtain ⟨ec, hb'⟩ := hb h4
        rw [ec] at h4
        exact fun v σ' H' Z' s' R' vr => h4 v H' Z' (left_of R' s' hb') vr
      | own ds =>
        have h4 : FRP P.K P.cA H Z B Q E (chk as g (.ok (.own ds) (borOf g))) := h4
        obtain ⟨ec, hb'⟩ := hb h4
        rw [ec] at h4
        exact fun v σ' H' Z' s' R' ⟨a, ws, e1, e2, e3, e4, r, _⟩ => h4 v H' Z' (left_of R' s' hb') ⟨a, ws, e1, e2, e3, e4, r⟩
theorem fn_ok {P : Program} {w : World} {K : PySem.W.Frag} {mg : Str → Option Value} {base : Heap} {cA : Nat → Addr} {x qual : Str} {st : Stmt} {f : Addr} {fd : FuncData} {N ps : List Str} {k : Nat} {body : SM Fl} (F : L2.Fun K x qual st f fd) (S : FnScope N ps (defScope st)) (hn : ps.length ≤ N.length)
    (hb : ∀ (cdv : Value) (A : Around) (outer : List Env) (s : Shared) (H : Hp) (E : XK) (X : Cx), X = cxOf (L2.CX P w) P w K mg base N qual (defScope st) f cdv A outer s H E → Room k X.A →
      Takes X (fun cls d _ H => E cls d H) → PassesOwn (model X.prog X.w) X.A X.env X.xe → PSs (cxOf (L2.CX P w) P w K mg base N qual (defScope st) f cdv A outer s H E) (defBody st) (TSo ⟨K, cA, none⟩ (fun cls d _ H => E cls d H) body)) :
    FnOk P w K mg base (L2.CX P w) (k + 1) f fd ps (SpD K cA ps.length (fdD (N.length - ps.length) body)) := by
  refine F.okX S (fun vs H Q E h => ?_) (fun cdv A outer s H vs Q E hr h => ⟨TSo ⟨K, cA, none⟩ (fun cls d _ H => E cls d H) body, ?_, fn_ts (P := ⟨K, cA, none⟩) hn h⟩)
  · obtain ⟨as, Z, B, h1, h2, h3, h4⟩ := h
    rw [argsOk_len h3, h1]
  · exact hb cdv A outer s H E _ rfl hr (takes_of rfl rfl rfl rfl) (passes_of rfl)

/-! ## calls -/
def escA : EV → SM Sl
  | .fro d => ret (.fro d)
  | .own ds => ret (.fro (.list ds))
  | .var i => fun g => match g[i]? with
    | some (.fro d) => .ok (.fro d, g)
    | some (.own ds) => .ok (.fro (.list ds), g.set i (.fro (.list ds)))
    | some (.scr ns) => .ok (.scr ns, g)
    | _ => .stuck
def escAL : List EV → SM (List Sl)
  | [] => ret []
  | e :: es => bnd (escA e) fun d => bnd (escAL es) fun ds => ret (d :: ds)
def ansE (r : FR) : SM EV := fun g => match r with
  | .ok ev _ => .ok (ev, g)
  | .exn k f p _ => .exn k f p g
  | .stuck => .stuck
def callE (f : Fd) (da : SM (List EV)) : SM EV := bnd da fun evs => bnd (escAL evs) fun as => ansE (f as)
end Mw
namespace Mw
open PySem L2

section
variable {P : Pa} {c : Ctx} {g : List Sl} {σ : St} {H Z H' Z' : Hp}
theorem Rel.there (R : Rel P c g σ H Z) {b : Addr} {x : HO} (e : c.H0 b = some x) : ∃ y, H b = some y := by
  by_cases hb : c.B = some b
  · obtain ⟨⟨vs, e1⟩, _⟩ := R.bo b hb
    exact ⟨_, e1⟩
  · exact ⟨x, R.fr b x e hb⟩
theorem Rel.left {b : Option (List D)} (R : Rel P c g σ H Z) (L : Left P.K H Z none b H' Z') : Rel P c g σ H' Z' where
  sub := L.sub
  zf := fun a x e => by obtain ⟨y, e1⟩ := R.there e; rw [L.zf a y e1]; exact R.zf a x e
  fr := fun a x e hb => L.fr a x (R.fr a x e hb) (fun z => nomatch z)
  bo := fun a e => by obtain ⟨⟨vs, e1⟩, h0⟩ := R.bo a e; exact ⟨⟨vs, L.fr a _ e1 (fun z => nomatch z)⟩, h0⟩
  len := R.len
  sl := fun i s e => (R.sl i s e).mono L.sz fun a vs _ h1 h2 => ⟨L.fr a _ h1 (fun z => nomatch z), (L.zf a _ h1).trans h2⟩
  ds := R.ds
  b0 := R.b0
theorem Rel.leftB {b : Option (List D)} {i : Nat} {ds ds' : List D} {a : Addr} {s : List D → Sl} (hs : s = Sl.own ∨ s = Sl.bor) (R : Rel P c g σ H Z) (hi : g[i]? = some (s ds)) (ha : σ[i]? = some (some (.ref a)))
    (L : Left P.K H Z (some a) b H' Z') (eb : b = some ds') : Rel P c (g.set i (s ds')) σ H' Z' := by
  obtain ⟨es, ws', e1, h1', r'⟩ := L.bo a rfl
  rw [eb] at e1; cases e1
  have il : i < g.length := (List.getElem?_eq_some_iff.mp hi).1
  -- the list's own slot
  have key : Z a = none ∧ (∃ vs, H a = some (.lst vs)) ∧ ((s = Sl.own ∧ c.H0 a = none) ∨ (s = Sl.bor ∧ c.B = some a)) := by
    rcases hs with rfl | rfl
    · obtain ⟨a', vs, e2, k1, k2, k3, _⟩ := R.sl i _ hi
      rw [ha] at e2; cases e2
      exact ⟨k2, ⟨vs, k1⟩, .inl ⟨rfl, k3⟩⟩
    · obtain ⟨a', vs, e2, k1, k2, k3, _⟩ := R.sl i _ hi
      rw [ha] at e2; cases e2
      exact ⟨k2, ⟨vs, k1⟩, .inr ⟨rfl, k3⟩⟩
  obtain ⟨za, ⟨va, hva⟩, own⟩ := key
  have za' : Z' a = none := (L.zf a _ hva).trans za
  refine ⟨L.sub, fun b x e => ?_, fun b x e hb => ?_, fun b e => ?_, by simpa using R.len, fun j t e => ?_, fun j k b hjk hj hk e => ?_, fun j es e => ?_⟩
  · obtain ⟨y, e1⟩ := R.there e; rw [L.zf b y e1]; exact R.zf b x e
  · refine L.fr b x (R.fr b x e hb) fun z => ?_
    cases z
    rcases own with ⟨_, h0⟩ | ⟨_, h0⟩
    · rw [h0] at e; cases e
    · exact hb h0
  · obtain ⟨⟨vs, e1⟩, h0⟩ := R.bo b e
    by_cases hba : b = a
    · subst hba; exact ⟨⟨ws', h1'⟩, h0⟩
    · exact ⟨⟨vs, L.fr b _ e1 fun z => hba (Option.some.inj z).symm⟩, h0⟩
  · rcases getE_set e with ⟨rfl, rfl⟩ | ⟨hne, e2⟩
    · rcases own with ⟨rfl, h0⟩ | ⟨rfl, h0⟩
      · exact ⟨a, ws', ha, h1', za', h0, r'⟩
      · exact ⟨a, ws', ha, h1', za', h0, r'⟩
    · have q := R.sl j t e2
      cases t with
      | un => trivial
      | fro d => obtain ⟨v, e3, r⟩ := q; exact ⟨v, e3, dpM L.sz r⟩
      | exc k f p' => obtain ⟨b, dd, v, e4, e5, e6, r⟩ := q; exact ⟨b, dd, v, e4, e5, L.sz _ _ e6, dpM L.sz r⟩
      | scr ns => obtain ⟨b, e4, r⟩ := q; exact ⟨b, e4, L.sz.seq r⟩
      | own es =>
        obtain ⟨b, ws, e3, h4, h5, h6, r''⟩ := q
        have ne : b ≠ a := fun z => by
          rcases own with ⟨rfl, _⟩ | ⟨_, h0⟩
          · exact R.ds i j a (Ne.symm hne) (by rw [hi]; rfl) (by rw [e2]; rfl) ha (z ▸ e3)
          · obtain ⟨_, x, e7⟩ := R.bo a h0
            rw [z, e7] at h6; cases h6
        exact ⟨b, ws, e3, L.fr b _ h4 (fun z => ne (Option.some.inj z).symm), (L.zf b _ h4).trans h5, h6, dpAM L.sz r''⟩
      | bor es =>
        obtain ⟨b, ws, e3, h4, h5, h6, r''⟩ := q
        have ne : b ≠ a := fun z => by
          rcases own with ⟨_, h0⟩ | ⟨rfl, h0⟩
          · obtain ⟨_, x, e7⟩ := R.bo b h6
            rw [z, h0] at e7; cases e7
          · exact hne ((R.b0 j _ e2).trans (R.b0 i _ hi).symm)
        exact ⟨b, ws, e3, L.fr b _ h4 (fun z => ne (Option.some.inj z).symm), (L.zf b _ h4).trans h5, h6, dpAM L.sz r''⟩
  · have f : ∀ m : Nat, isO (g.set i (s ds'))[m]? = true → isO g[m]? = true := fun m q => by
      cases e : (g.set i (s ds'))[m]? with
      | none => rw [e] at q; cases q
      | some y =>
        rw [e] at q
        rcases getE_set e with ⟨rfl, rfl⟩ | ⟨_, e2⟩
        · rcases own with ⟨rfl, _⟩ | ⟨rfl, _⟩
          · rw [hi]; rfl
          · cases q
        · rw [e2]; exact q
    exact R.ds j k b hjk (f j hj) (f k hk) e
  · rcases getE_set e with ⟨rfl, e1⟩ | ⟨_, e2⟩
    · rcases own with ⟨rfl, _⟩ | ⟨rfl, _⟩
      · cases e1
      · exact R.b0 _ _ hi
    · exact R.b0 j _ e2

/-! ## arguments that leave; the answer that comes -/
theorem escA_ok {v : V} {ev : EV} {ok : Sl → List Sl → Prop} {ex : Nat → Str → D → List Sl → Prop} (R : Rel P c g σ H Z) (h : VP P σ Z v ev) (p : Post ok ex (escA ev g)) :
    ∃ a g' Z', Same Z Z' ∧ Rel P c g' σ H Z' ∧ (∀ {vs as}, FroL P.K Z' vs as → FroL P.K Z' (v :: vs) (a :: as)) ∧ ok a g' := by
  cases ev with
  | fro d => exact ⟨_, g, Z, Same.refl _, R, fun r => .fro h r, p⟩
  | own ds => exact h.elim
  | var i =>
    have h : σ[i]? = some (some v) := h
    have p : Post ok ex (match g[i]? with
      | some (.fro d) => Res.ok (Sl.fro d, g)
      | some (.own ds) => .ok (.fro (.list ds), g.set i (.fro (.list ds)))
      | some (.scr ns) => .ok (.scr ns, g)
      | _ => .stuck) := p
    cases es : g[i]? with
    | none => rw [es] at p; exact p.elim
    | some s =>
      rw [es] at p
      cases s with
      | un => exact p.elim
      | exc k f p' => exact p.elim
      | bor ds => exact p.elim
      | scr ns =>
        obtain ⟨a, e1, r⟩ := R.sl i _ es
        rw [h] at e1; cases e1
        exact ⟨_, g, Z, Same.refl _, R, fun q => .scr r q, p⟩
      | fro d =>
        obtain ⟨w, e1, r⟩ := R.sl i _ es
        rw [h] at e1; cases e1
        exact ⟨_, g, Z, Same.refl _, R, fun q => .fro r q, p⟩
      | own ds =>
        obtain ⟨a, Z', e1, sz, R', r⟩ := R.frzS es
        rw [h] at e1; cases e1
        exact ⟨_, _, Z', sz, R', fun q => .fro r q, p⟩
theorem froL_mono {K : PySem.W.Frag} {Z Z' : Hp} (s : Same Z Z') : ∀ {vs : List V} {as : List Sl}, FroL K Z vs as → FroL K Z' vs as
  | _, _, .nil => .nil
  | _, _, .fro h r => .fro (dpM s h) (froL_mono s r)
  | _, _, .scr h r => .scr (s.seq h) (froL_mono s r)
end
section
variable {P : Pa} {c : Ctx} {σ : St} {H : Hp} {ex : Nat → Str → D → List Sl → Prop}
theorem escAL_ok : ∀ {xs : List EV} {vs : List V} {g : List Sl} {Z : Hp} {ok : List Sl → List Sl → Prop}, Rel P c g σ H Z → VPL P σ Z vs xs → Post ok ex (escAL xs g) → ∃ as g' Z', Same Z Z' ∧ Rel P c g' σ H Z' ∧ FroL P.K Z' vs as ∧ ok as g'
  | [], _, g, Z, ok, R, h, p => by cases h; exact ⟨[], g, Z, Same.refl _, R, .nil, p⟩
  | x :: xs, _, g, Z, ok, R, h, p => by
    cases h with
    | cons h1 h2 =>
      obtain ⟨a, g1, Z1, s1, R1, r1, p1⟩ := escA_ok R h1 (post_bnd.mp p)
      obtain ⟨as, g2, Z2, s2, R2, r2, p2⟩ := escAL_ok R1 (h2.mono s1) (post_bnd.mp p1)
      refine ⟨a :: as, g2, Z2, s1.trans s2, R2, ?_, p2⟩
      have := r1 (vs := []) (as := []) .nil
      cases this with
      | fro h _ => exact .fro (dpM s2 h) r2
      | scr h _ => exact .scr (s2.seq h) r2
end
/-- a value handed back -/
theorem resV_vr {P : Pa} {c : Ctx} {g : List Sl} {σ : St} {H Z H' Z' : Hp} {v : V} {ev : EV} (R : Rel P c g σ H Z) (h : ResV P.K H H' Z' v ev) : VR P c g σ H' Z' v ev := by
  cases ev with
  | fro d => exact h
  | var i => exact h.elim
  | own ds =>
    obtain ⟨a, vs, rfl, h1, h2, h3, r⟩ := h
    refine ⟨a, vs, rfl, h1, h2, R.dom h3, r, fun i hi e => ?_⟩
    cases es : g[i]? with
    | none => rw [es] at hi; cases hi
    | some s =>
      rw [es] at hi
      cases s with
      | own ds' =>
        obtain ⟨b, ws, e1, k1, _⟩ := R.sl i _ es
        rw [e] at e1; cases e1
        rw [h3] at k1; cases k1
      | un => cases hi
      | fro _ => cases hi
      | bor _ => cases hi
      | exc _ _ _ => cases hi
      | scr _ => cases hi
def borCall (f : Fd) (i : Nat) (as : List Sl) : SM EV := fun g => match g[i]? with
  | some (.own ds) => (match f (.bor ds :: as) with
    | .ok ev (some ds') => .ok (ev, g.set i (.own ds'))
    | .exn k x p (some ds') => .exn k x p (g.set i (.own ds'))
    | _ => .stuck)
  | some (.bor ds) => (match f (.bor ds :: as) with
    | .ok ev (some ds') => .ok (ev, g.set i (.bor ds'))
    | .exn k x p (some ds') => .exn k x p (g.set i (.bor ds'))
    | _ => .stuck)
  | _ => .stuck
/-- a call that may rewrite the list of its first argument -/
def callB (f : Fd) (da : SM (List EV)) : SM EV := bnd da fun evs => match evs with
  | .var i :: r => bnd (escAL r) fun as => borCall f i as
  | _ => fun _ => .stuck
section
variable {X : Cx} {P : Pa} {W : WX} {e : Expr} {es : List Expr} {pos p0 : Pos} {x : Str} {f : Addr} {fd : FuncData} {ps : List Str} {k n : Nat} {F : Fd}
theorem me_call {da : SM (List EV)} (G : FnOk X.prog X.w X.K X.mg X.base (L2.CX X.prog X.w) k f fd ps (SpD P.K P.cA n F)) (hF : ∀ as : List Sl, as.length ≠ n → F as = .stuck) (hr : Room k X.A) (hg : Gl X x) (hm : X.mg x = some (.ref f)) (hk : PySem.W.keepIn X.K (.ref f) = true) (hb : Binds X.K fd ps []) (tk : Takes X W)
    (ha : PA X (e :: es) (TAo P W da)) (hdb : (x == ("__debug__" : Str)) = false := by decide) (he : starEach (e :: es) X.env = (false, eval e X.env) :: starEach es X.env := by rfl) (hpl : (backTo pos (starEach es X.env)).any (·.1) = false := by rfl) :
    PE X (.Call (.Name x p0) (e :: es) [] pos) (TEo P W (callE F da)) := by
  refine peW (pe_callS (E := WE W) G hr hg hm hk hb (fun σ => passAt tk σ) ha hdb he hpl) fun σ H Q ⟨c, g, Z, R, p⟩ => ?_
  refine TAo.on R p fun ys g2 ws H2 Z2 s2 R2 vy p2 => ?_
  obtain ⟨as, g3, Z3, s3, R3, r3, p3⟩ := escAL_ok R2 vy (post_bnd.mp p2)
  have hn : as.length = n := by
    by_cases h : as.length = n
    · exact h
    · unfold ansE at p3; rw [hF as h] at p3; exact p3.elim
  refine frp_spD hn R3.sub (.none r3) ?_
  unfold ansE at p3
  cases e1 : F as with
  | stuck => rw [e1] at p3; exact p3
  | ok ev b =>
    rw [e1] at p3
    exact fun v H' Z' L rv => p3 v H' Z' ((s2.trans s3).trans L.sz) (R3.left L) (resV_vr R3 rv)
  | exn k x p' b =>
    rw [e1] at p3
    exact fun dd v H' Z' L ez rv => p3 dd v H' Z' ez rv (R3.left L)
theorem borCall_ok {s : List D → Sl} (hs : s = Sl.own ∨ s = Sl.bor) {c : Ctx} {g : List Sl} {σ : St} {H Z : Hp} {i : Nat} {ds : List D} {as : List Sl} {ok : EV → List Sl → Prop} {ex : Nat → Str → D → List Sl → Prop} {Q : VK} {E : XK} {v0 : V} {vs : List V} (R : Rel P c g σ H Z) (hi : g[i]? = some (s ds)) (h0 : σ[i]? = some (some v0)) (r : FroL P.K Z vs as)
    (hF : ∀ as : List Sl, as.length ≠ n → F as = .stuck)
    (p : Post ok ex (match F (.bor ds :: as) with
      | .ok ev (some ds') => Res.ok (ev, g.set i (s ds'))
      | .exn k x p (some ds') => .exn k x p (g.set i (s ds'))
      | _ => .stuck))
    (h1 : ∀ ev g' v H' Z', Same Z Z' → Rel P c g' σ H' Z' → VR P c g' σ H' Z' v ev → ok ev g' → Q v H') (h2 : ∀ k x q g' dd v H' Z', Z' dd = some (.xd [(x, v)]) → Dq P.K Z' v q → Rel P c g' σ H' Z' → ex k x q g' → E (.ref (P.cA k)) (some dd) H') :
    SpD P.K P.cA n F (v0 :: vs) H Q E := by
  have key : ∃ a ws, v0 = .ref a ∧ H a = some (.lst ws) ∧ Z a = none ∧ DqAll P.K Z ws ds := by
    rcases hs with rfl | rfl
    · obtain ⟨a, ws, e1, k1, k2, _, r⟩ := R.sl i _ hi; rw [h0] at e1; cases e1; exact ⟨a, ws, rfl, k1, k2, r⟩
    · obtain ⟨a, ws, e1, k1, k2, _, r⟩ := R.sl i _ hi; rw [h0] at e1; cases e1; exact ⟨a, ws, rfl, k1, k2, r⟩
  obtain ⟨a, ws, rfl, k1, k2, rd⟩ := key
  have hn : (Sl.bor ds :: as).length = n := by
    by_cases h : (Sl.bor ds :: as).length = n
    · exact h
    · rw [hF _ h] at p; exact p.elim
  refine frp_spD hn R.sub (.some k1 k2 rd r) ?_
  cases e1 : F (.bor ds :: as) with
  | stuck => rw [e1] at p; exact p
  | ok ev b =>
    rw [e1] at p
    cases b with
    | none => exact p.elim
    | some ds' =>
      intro v H' Z' L rv
      have R' := R.leftB hs hi h0 L rfl
      refine h1 ev _ v H' Z' L.sz R' ?_ p
      -- the value: of new objects
      cases ev with
      | fro d => exact rv
      | var j => exact rv.elim
      | own es =>
        obtain ⟨b, us, rfl, q1, q2, q3, qr⟩ := rv
        refine ⟨b, us, rfl, q1, q2, R.dom q3, qr, fun j hj ej => ?_⟩
        cases es' : (g.set i (s ds'))[j]? with
        | none => rw [es'] at hj; cases hj
        | some t =>
          rw [es'] at hj
          rcases getE_set es' with ⟨rfl, _⟩ | ⟨hne, e5⟩
          · rw [h0] at ej; cases ej; rw [q3] at k1; cases k1
          · cases t with
            | own ds2 => obtain ⟨b2, us2, e6, k6, _⟩ := R.sl j _ e5; rw [ej] at e6; cases e6; rw [q3] at k6; cases k6
            | un => cases hj
            | fro _ => cases hj
            | bor _ => cases hj
            | exc _ _ _ => cases hj
            | scr _ => cases hj
  | exn k x p' b =>
    rw [e1] at p
    cases b with
    | none => exact p.elim
    | some ds' => exact fun dd v H' Z' L ez rv => h2 k x p' _ dd v H' Z' ez rv (R.leftB hs hi h0 L rfl) p
theorem me_callB' {da : SM (List EV)} (G : FnOk X.prog X.w X.K X.mg X.base (L2.CX X.prog X.w) k f fd ps (SpD P.K P.cA n F)) (hF : ∀ as : List Sl, as.length ≠ n → F as = .stuck) (hr : Room k X.A) (hg : Gl X x) (hm : X.mg x = some (.ref f)) (hk : PySem.W.keepIn X.K (.ref f) = true) (hb : Binds X.K fd ps []) (tk : Takes X W)
    (ha : PA X (e :: es) (TAo P W da)) (hdb : (x == ("__debug__" : Str)) = false := by decide) (he : starEach (e :: es) X.env = (false, eval e X.env) :: starEach es X.env := by rfl) (hpl : (backTo pos (starEach es X.env)).any (·.1) = false := by rfl) :
    PE X (.Call (.Name x p0) (e :: es) [] pos) (TEo P W (callB F da)) := by
  refine peW (pe_callS (E := WE W) G hr hg hm hk hb (fun σ => passAt tk σ) ha hdb he hpl) fun σ H Q ⟨c, g, Z, R, p⟩ => ?_
  refine TAo.on R p fun ys g2 ws H2 Z2 s2 R2 vy p2 => ?_
  cases vy with
  | nil => exact p2.elim
  | @cons v0 vs ev evs hv hr' =>
    cases ev with
    | fro d => exact p2.elim
    | own ds => exact p2.elim
    | var i =>
      obtain ⟨as, g3, Z3, s3, R3, r3, p3⟩ := escAL_ok R2 hr' (post_bnd.mp p2)
      have h0 : σ[i]? = some (some v0) := hv
      unfold borCall at p3
      cases es' : g3[i]? with
      | none => rw [es'] at p3; exact p3.elim
      | some t =>
        rw [es'] at p3
        cases t with
        | un => exact p3.elim
        | fro _ => exact p3.elim
        | exc _ _ _ => exact p3.elim
        | scr _ => exact p3.elim
        | own ds => exact borCall_ok (s := Sl.own) (.inl rfl) R3 es' h0 r3 hF p3 (fun ev g' v H' Z' s' R' vr q => q v H' Z' ((s2.trans s3).trans s') R' vr) fun k x q g' dd v H' Z' ez rv R' qq => qq dd v H' Z' ez rv R'
        | bor ds => exact borCall_ok (s := Sl.bor) (.inr rfl) R3 es' h0 r3 hF p3 (fun ev g' v H' Z' s' R' vr q => q v H' Z' ((s2.trans s3).trans s') R' vr) fun k x q g' dd v H' Z' ez rv R' qq => qq dd v H' Z' ez rv R'
end
end Mw
namespace Mw
open PySem L2 PySem.Spec

/-! ## an object is held while something else runs -/
def Ctx.hold (c : Ctx) (p : Addr) (x : HO) : Ctx := ⟨fun b => if b = p then some x else c.H0 b, fun b => if b = p then none else c.Z0 b, c.B⟩
def NoOwn (g : List Sl) (σ : L2.St) (p : Addr) : Prop := ∀ j : Nat, isO g[j]? = true → σ[j]? ≠ some (some (.ref p))
section
variable {P : Pa} {c : Ctx} {g : List Sl} {σ : L2.St} {H Z : Hp} {p : Addr} {x o : HO}
theorem hold_ne {b : Addr} (h : b ≠ p) : (c.hold p x).H0 b = c.H0 b := if_neg h
theorem Rel.noB (R : Rel P c g σ H Z) (h0 : c.H0 p = none) : c.B ≠ some p := fun z => by
  obtain ⟨_, y, e⟩ := R.bo p z
  rw [h0] at e; cases e
theorem Rel.hold (R : Rel P c g σ H Z) (hp : H p = some x) (hz : Z p = none) (h0 : c.H0 p = none) (hn : NoOwn g σ p) : Rel P (c.hold p x) g σ H Z := by
  refine ⟨R.sub, fun b y e => ?_, fun b y e hb => ?_, fun a e => ?_, R.len, fun i s e => ?_, R.ds, R.b0⟩
  · show Z b = if b = p then none else c.Z0 b
    by_cases hbp : b = p
    · rw [if_pos hbp, hbp]; exact hz
    · rw [if_neg hbp]; rw [hold_ne hbp] at e; exact R.zf b y e
  · by_cases hbp : b = p
    · subst hbp
      have e : (if b = b then some x else c.H0 b) = some y := e
      rw [if_pos rfl] at e; cases e; exact hp
    · rw [hold_ne hbp] at e; exact R.fr b y e hb
  · obtain ⟨h1, y, h2⟩ := R.bo a e
    exact ⟨h1, y, by rw [hold_ne (fun z => by rw [z, h0] at h2; cases h2)]; exact h2⟩
  · have q := R.sl i s e
    cases s with
    | own ds =>
      obtain ⟨a, vs, e1, h1, h2, h3, r⟩ := q
      have ne : a ≠ p := fun z => hn i (by rw [e]; rfl) (z ▸ e1)
      exact ⟨a, vs, e1, h1, h2, by rw [hold_ne ne]; exact h3, r⟩
    | un => exact q
    | fro d => exact q
    | bor ds => exact q
    | exc k f p' => exact q
    | scr ns => exact q
theorem Rel.unhold (R : Rel P (c.hold p x) g σ H Z) (h0 : c.H0 p = none) (hB : c.B ≠ some p) : Rel P c g σ H Z ∧ H p = some x ∧ Z p = none ∧ NoOwn g σ p := by
  have hp : (c.hold p x).H0 p = some x := if_pos rfl
  refine ⟨⟨R.sub, fun b y e => ?_, fun b y e hb => ?_, fun a e => ?_, R.len, fun i s e => ?_, R.ds, R.b0⟩, R.fr p x hp hB, ?_, fun j hj ej => ?_⟩
  · have hbp : b ≠ p := fun z => by rw [z, h0] at e; cases e
    have := R.zf b y (by rw [hold_ne hbp]; exact e)
    rw [this]; exact if_neg hbp
  · have hbp : b ≠ p := fun z => by rw [z, h0] at e; cases e
    exact R.fr b y (by rw [hold_ne hbp]; exact e) hb
  · obtain ⟨h1, y, h2⟩ := R.bo a e
    have hap : a ≠ p := fun z => hB (z ▸ e)
    rw [hold_ne hap] at h2
    exact ⟨h1, y, h2⟩
  · have q := R.sl i s e
    cases s with
    | own ds =>
      obtain ⟨a, vs, e1, h1, h2, h3, r⟩ := q
      have ne : a ≠ p := fun z => by rw [z, hp] at h3; cases h3
      rw [hold_ne ne] at h3
      exact ⟨a, vs, e1, h1, h2, h3, r⟩
    | un => exact q
    | fro d => exact q
    | bor ds => exact q
    | exc k f p' => exact q
    | scr ns => exact q
  · rw [R.zf p x hp]; exact if_pos rfl
  · cases es : g[j]? with
    | none => rw [es] at hj; cases hj
    | some s =>
      rw [es] at hj
      cases s with
      | own ds =>
        obtain ⟨a, vs, e1, h1, h2, h3, r⟩ := R.sl j _ es
        rw [ej] at e1; cases e1
        rw [hp] at h3; cases h3
      | un => cases hj
      | fro _ => cases hj
      | bor _ => cases hj
      | exc _ _ _ => cases hj
      | scr _ => cases hj
/-- an object that nobody knows is rewritten -/
theorem Rel.updFree (R : Rel P c g σ H Z) (hz : Z p = none) (h0 : c.H0 p = none) (hn : NoOwn g σ p) : Rel P c g σ (upd H p o) Z := by
  refine ⟨same_out R.sub hz, R.zf, fun b y e hb => ?_, fun a e => ?_, R.len, fun i s e => ?_, R.ds, R.b0⟩
  · rw [upd_ne (fun z => by rw [z, h0] at e; cases e)]; exact R.fr b y e hb
  · obtain ⟨⟨vs, h1⟩, y, h2⟩ := R.bo a e
    exact ⟨⟨vs, by rw [upd_ne (fun z => by rw [z, h0] at h2; cases h2)]; exact h1⟩, y, h2⟩
  · have q := R.sl i s e
    cases s with
    | own ds =>
      obtain ⟨a, vs, e1, h1, h2, h3, r⟩ := q
      have ne : a ≠ p := fun z => hn i (by rw [e]; rfl) (z ▸ e1)
      exact ⟨a, vs, e1, by rw [upd_ne ne]; exact h1, h2, h3, r⟩
    | bor ds =>
      obtain ⟨a, vs, e1, h1, h2, h3, r⟩ := q
      have ne : a ≠ p := fun z => by
        obtain ⟨_, y, e2⟩ := R.bo a h3
        rw [z, h0] at e2; cases e2
      exact ⟨a, vs, e1, by rw [upd_ne ne]; exact h1, h2, h3, r⟩
    | un => exact q
    | fro d => exact q
    | exc k f p' => exact q
    | scr ns => exact q
end

/-! ## comprehensions -/
def wipeG (g : List Sl) : List Nat → List Sl
  | [] => g
  | v :: vs => (wipeG g vs).set v .un
def keepSl : Option Sl → Sl
  | some (.fro d) => .fro d
  | _ => .un
def restG : List Nat → List Sl → List Sl → List Sl
  | [], _, g' => g'
  | v :: vs, g, g' => restG vs g (g'.set v (keepSl g[v]?))
def lcL (vs : List Nat) (t : Tg) (q : SM Bool) (el : SM EV) : List D → List D → SM (List D)
  | acc, [] => ret acc
  | acc, d :: ds => bnd (t.put d) fun _ => bnd q fun b => if b then bnd el fun ev => bnd (esc (frz ev)) fun x => fun g =>
      if acc.length < SZ then lcL vs t q el (acc ++ [x]) ds (wipeG g vs) else .stuck
    else fun g => lcL vs t q el acc ds (wipeG g vs)
def lcE (vs : List Nat) (it : SM (List D)) (t : Tg) (q : SM Bool) (el : SM EV) : SM EV := bnd it fun ds => fun g => match lcL vs t q el [] ds (wipeG g vs) with
  | .ok (acc, g1) => .ok (.own acc, restG vs g g1)
  | _ => .stuck
section
variable {P : Pa} {c : Ctx} {g g' : List Sl} {σ : L2.St} {H Z : Hp}
theorem Rel.wipe (R : Rel P c g σ H Z) : ∀ vs : List Nat, Rel P c (wipeG g vs) (L2.wipe σ vs) H Z
  | [] => R
  | v :: vs => (R.wipe vs).forget v none
theorem sets_wipe : ∀ {is : List Nat} {ws : List V} {σ : L2.St} {vs : List Nat}, (∀ i ∈ is, i ∈ vs) → L2.wipe (sets is ws σ) vs = L2.wipe σ vs
  | [], _, _, _, _ => by unfold sets; rfl
  | i :: is, [], _, _, _ => rfl
  | i :: is, w :: ws, σ, vs, h => by
    show L2.wipe (sets is ws (σ.set i (some w))) vs = _
    rw [sets_wipe fun j hj => h j (List.mem_cons_of_mem _ hj)]
    have hi := h i List.mem_cons_self
    clear h
    induction vs with
    | nil => cases hi
    | cons v vs ih =>
      show (L2.wipe (σ.set i (some w)) vs).set v none = (L2.wipe σ vs).set v none
      by_cases e : i ∈ vs
      · rw [ih e]
      · have ev : i = v := (List.mem_cons.mp hi).resolve_right e
        subst ev
        have gen : ∀ us : List Nat, i ∉ us → L2.wipe (σ.set i (some w)) us = (L2.wipe σ us).set i (some w) := by
          intro us
          induction us with
          | nil => intro _; rfl
          | cons u us ihu =>
            intro hu
            simp only [List.mem_cons, not_or] at hu
            show (L2.wipe (σ.set i (some w)) us).set u none = ((L2.wipe σ us).set u none).set i (some w)
            rw [ihu hu.2, List.set_comm _ _ hu.1]
        rw [gen vs e, List.set_set]
theorem Rel.unwipe (R0 : ∀ (i : Nat) (d : D), g[i]? = some (.fro d) → ∃ v, σ[i]? = some (some v) ∧ Dq P.K Z v d) : ∀ {vs : List Nat} {g' : List Sl}, vs.Nodup → Rel P c g' (L2.wipe σ vs) H Z → Rel P c (restG vs g g') σ H Z
  | [], _, _, R => R
  | v :: vs, g', hd, R => by
    obtain ⟨hv, hd'⟩ := List.nodup_cons.mp hd
    show Rel P c (restG vs g (g'.set v (keepSl g[v]?))) σ H Z
    refine Rel.unwipe (vs := vs) (g' := g'.set v (keepSl g[v]?)) R0 hd' ?_
    by_cases hl : v < (L2.wipe σ vs).length
    · have hs : v < σ.length := by rw [L2.wipe_length] at hl; exact hl
      have e1 : (L2.wipe σ (v :: vs)).set v σ[v] = L2.wipe σ vs := by
        show ((L2.wipe σ vs).set v none).set v σ[v] = L2.wipe σ vs
        rw [List.set_set]
        have e2 : (L2.wipe σ vs)[v]'hl = σ[v] := by
          have := L2.wipe_out (σ := σ) hv
          rw [List.getElem?_eq_getElem hl, List.getElem?_eq_getElem hs] at this
          exact Option.some.inj this
        rw [← e2]; exact List.set_getElem_self hl
      have hl2 : v < (L2.wipe σ (v :: vs)).length := by rw [L2.wipe_length]; exact hs
      have := R.put (i := v) (v := σ[v]) (s := keepSl g[v]?) hl2 ?_ ?_ ?_
      · rw [e1] at this; exact this
      · cases eg : g[v]? with
        | none => trivial
        | some s =>
          cases s with
          | fro d =>
            obtain ⟨w, ew, r⟩ := R0 v d eg
            rw [List.getElem?_eq_getElem hs] at ew
            exact ⟨w, ew, r⟩
          | un => trivial
          | own _ => trivial
          | bor _ => trivial
          | exc _ _ _ => trivial
          | scr _ => trivial
      · intro h
        cases eg : g[v]? with
        | none => rw [eg] at h; cases h
        | some s => rw [eg] at h; cases s <;> cases h
      · intro ds h
        cases eg : g[v]? with
        | none => rw [eg] at h; cases h
        | some s => rw [eg] at h; cases s <;> cases h
    · have e1 : L2.wipe σ (v :: vs) = L2.wipe σ vs := List.set_eq_of_length_le (by omega)
      rw [e1] at R
      have e2 : g'.set v (keepSl g[v]?) = g' := List.set_eq_of_length_le (by rw [R.len]; omega)
      rw [e2]; exact R
end
def W0 : WX := fun _ _ _ _ => False
theorem exK_W0 {P : Pa} {c : Ctx} {σ : L2.St} {α : Type} {r : Res (α × List Sl)} {ok : α → List Sl → Prop} {ex : Nat → Str → D → List Sl → Prop} (p : Post ok (fun _ _ _ _ => False) r) : Post ok ex r := post_mono p (fun _ _ q => q) fun _ _ _ _ q => q.elim
/-- a comprehension's reading -/
theorem lc_w {P : Pa} {W : WX} {vs : List Nat} {it : SM (List D)} {t : Tg} {q : SM Bool} {el : SM EV} {tt : TT} (hv : vs.Nodup) (ht : ∀ i ∈ t.slots, i ∈ vs) (htt : ∀ σ H Q, TTo P W0 q σ H Q → tt σ H Q) :
    ∀ σ H Q, TEo P W (lcE vs it t q el) σ H Q → tLc (TIo P W it) (TGo P t) tt (TEo P W0 el) vs σ H Q := by
  intro σ H Q ⟨c, g, Z, R, p⟩
  refine ⟨c, g, Z, R, post_mono (post_bnd.mp p) (fun ds g1 p1 H1 Z1 J s1 R1 w Dd hD => ?_) fun _ _ _ _ q => q⟩
  -- the run's end
  cases er : lcL vs t q el [] ds (wipeG g1 vs) with
  | stuck => rw [er] at p1; exact p1.elim
  | exn k f p' g' => rw [er] at p1; exact p1.elim
  | ok fin =>
  obtain ⟨accF, gF⟩ := fin
  rw [er] at p1
  have p1 : ∀ v H' Z', Same Z Z' → Rel P c (restG vs g1 gF) σ H' Z' → VR P c (restG vs g1 gF) σ H' Z' v (.own accF) → Q v H' := p1
  have d0 := R1.dom hD
  have hB := R1.noB d0
  let Iv : Nat → Hp → Prop := fun i H => ∃ (g' : List Sl) (Z' : Hp) (aD : List D) (aV : List V), Same Z1 Z' ∧ Rel P c g' (L2.wipe σ vs) H Z' ∧ H Dd = some (.lst aV) ∧ Z' Dd = none ∧ DqAll P.K Z' aV aD ∧ NoOwn g' (L2.wipe σ vs) Dd ∧
    lcL vs t q el aD (ds.drop i) g' = .ok (accF, gF)
  have fresh : NoOwn (wipeG g1 vs) (L2.wipe σ vs) Dd := fun j hj e => by
    obtain ⟨h1, _⟩ := L2.wipe_some e
    cases es : (wipeG g1 vs)[j]? with
    | none => rw [es] at hj; cases hj
    | some s =>
      rw [es] at hj
      cases s with
      | own ds' =>
        obtain ⟨a, ws, e1, k1, _⟩ := (R1.wipe vs).sl j _ es
        rw [e] at e1; cases e1
        rw [hD] at k1; cases k1
      | un => cases hj
      | fro _ => cases hj
      | bor _ => cases hj
      | exc _ _ _ => cases hj
      | scr _ => cases hj
  refine ⟨fun i m H => m = ds.length - i ∧ i ≤ ds.length ∧ Iv i H, ⟨_, rfl, Nat.zero_le _, wipeG g1 vs, Z1, [], [], Same.refl _, (R1.wipe vs).newH hD, upd_same, R1.zn hD, .nil, fresh, er⟩, ?_⟩
  rintro i m H' ⟨rfl, hi, g', Z', aD, aV, s', R', hD', zD', r', hn', eq'⟩
  have w' := w.mono s'
  by_cases hlt : i < ds.length
  · refine .inr ⟨w'.go i H' hlt R'.sub, fun H2 => i + 1 ≤ ds.length ∧ Iv (i + 1) H2, fun H2 ⟨h1, q2⟩ => ⟨ds.length - (i + 1), by omega, rfl, h1, q2⟩, fun x H2 y => ?_⟩
    have RH := R'.hold hD' zD' d0 hn'
    obtain ⟨d, ed, yd⟩ := w'.yld i H' x H2 hlt R'.sub y
    obtain ⟨Z2, s2, R2, r2⟩ := yd_in RH yd
    have edr : ds.drop i = d :: ds.drop (i + 1) := by
      rw [List.drop_eq_getElem_cons hlt]
      rw [List.getElem?_eq_getElem hlt] at ed
      rw [Option.some.inj ed]
    rw [edr] at eq'
    -- the turn's run
    have run : Post (fun acc g => acc = accF ∧ g = gF) (fun _ _ _ _ => False) (lcL vs t q el aD (d :: ds.drop (i + 1)) g') := by rw [eq']; exact ⟨rfl, rfl⟩
    have q2 := post_bnd.mp run
    refine ⟨_, g', Z2, d, R2, r2, post_mono q2 (fun _ g3 q3 us R3 => ⟨?_, htt _ _ _ ?_⟩) fun _ _ _ _ q => q⟩
    · rw [sets_wipe ht]
      have : ∀ us : List Nat, L2.wipe (L2.wipe σ us) us = L2.wipe σ us := by
        intro us
        refine List.ext_getElem? fun j => ?_
        by_cases hj : j ∈ us
        · have f : ∀ (τ : L2.St) (us : List Nat), j ∈ us → (L2.wipe τ us)[j]? = (τ[j]?).map fun _ => none := by
            intro τ us
            induction us with
            | nil => intro h; cases h
            | cons u us ih =>
              intro h
              show ((L2.wipe τ us).set u none)[j]? = _
              by_cases e : u = j
              · subst e
                by_cases hl : u < (L2.wipe τ us).length
                · rw [List.getElem?_set_self hl, List.getElem?_eq_getElem (by rw [L2.wipe_length] at hl; exact hl)]; rfl
                · rw [List.getElem?_eq_none (by simpa using hl), List.getElem?_eq_none (by rw [L2.wipe_length] at hl; omega)]; rfl
              · rw [List.getElem?_set_ne e, ih ((List.mem_cons.mp h).resolve_left (Ne.symm e))]
          rw [f _ us hj, f _ us hj, Option.map_map]; rfl
        · rw [L2.wipe_out hj]
      exact this vs
    refine ⟨_, g3, Z2, R3, post_mono (post_bnd.mp q3) (fun b g4 q4 H4 Z4 s4 R4 => ?_) fun _ _ _ _ q => q.elim⟩
    have back : ∀ {gx : List Sl} {Hx Zx : Hp}, Rel P (c.hold Dd (.lst aV)) gx (sets t.slots us (L2.wipe σ vs)) Hx Zx →
        Rel P (c.hold Dd (.lst aV)) (wipeG gx vs) (L2.wipe σ vs) Hx Zx := fun {gx Hx Zx} Rx => by
      have := Rx.wipe vs
      rw [sets_wipe ht] at this
      have idem : L2.wipe (L2.wipe σ vs) vs = L2.wipe σ vs := by
        have h0 := this.len
        refine List.ext_getElem? fun j => ?_
        by_cases hj : j ∈ vs
        · have f : ∀ (τ : L2.St) (us : List Nat), j ∈ us → (L2.wipe τ us)[j]? = (τ[j]?).map fun _ => none := by
            intro τ us
            induction us with
            | nil => intro h; cases h
            | cons u us ih =>
              intro h
              show ((L2.wipe τ us).set u none)[j]? = _
              by_cases e : u = j
              · subst e
                by_cases hl : u < (L2.wipe τ us).length
                · rw [List.getElem?_set_self hl, List.getElem?_eq_getElem (by rw [L2.wipe_length] at hl; exact hl)]; rfl
                · rw [List.getElem?_eq_none (by simpa using hl), List.getElem?_eq_none (by rw [L2.wipe_length] at hl; omega)]; rfl
              · rw [List.getElem?_set_ne e, ih ((List.mem_cons.mp h).resolve_left (Ne.symm e))]
          rw [f _ vs hj, f _ vs hj, Option.map_map]; rfl
        · rw [L2.wipe_out hj]
      rw [idem] at this
      exact this
    cases b with
    | false =>
      refine iteF ?_
      obtain ⟨R5, h5, z5, n5⟩ := (back R4).unhold d0 hB
      have q4 : Post (fun acc g => acc = accF ∧ g = gF) (fun _ _ _ _ => False) (lcL vs t q el aD (ds.drop (i + 1)) (wipeG g4 vs)) := q4
      refine ⟨hlt, wipeG g4 vs, Z4, aD, aV, (s'.trans s2).trans s4, R5, h5, z5, dpAM (s2.trans s4) r', n5, ?_⟩
      cases e5 : lcL vs t q el aD (ds.drop (i + 1)) (wipeG g4 vs) with
      | ok z => obtain ⟨z1, z2⟩ := z; rw [e5] at q4; obtain ⟨rfl, rfl⟩ := q4; rfl
      | exn _ _ _ _ => rw [e5] at q4; exact q4.elim
      | stuck => rw [e5] at q4; exact q4.elim
    | true =>
      refine iteT ?_
      refine ⟨_, g4, Z4, R4, post_mono (post_bnd.mp q4) (fun ev g5 q5 v5 H5 Z5 s5 R5 vr5 => ?_) fun _ _ _ _ q => q.elim⟩
      obtain ⟨Z6, s6, R6, vp6⟩ := vr5.frz R5
      obtain ⟨dx, g7, Z7, s7, R7, r7, q7⟩ := esc_ok R6 vp6 (post_bnd.mp q5)
      by_cases hsz : aD.length < SZ
      · rw [if_pos hsz] at q7
        obtain ⟨R8, h8, z8, n8⟩ := (back R7).unhold d0 hB
        have sA : Same Z' Z7 := (((s2.trans s4).trans s5).trans s6).trans s7
        refine ⟨aV, h8, by rw [dpA_len r', ← SZ_eq]; exact hsz, hlt, wipeG g7 vs, Z7, aD ++ [dx], aV ++ [v5], s'.trans sA, R8.updFree z8 d0 n8, upd_same, z8, dpA_app (dpAM sA r') (.cons r7 .nil), n8, ?_⟩
        cases e5 : lcL vs t q el (aD ++ [dx]) (ds.drop (i + 1)) (wipeG g7 vs) with
        | ok z => obtain ⟨z1, z2⟩ := z; rw [e5] at q7; obtain ⟨rfl, rfl⟩ := q7; rfl
        | exn _ _ _ _ => rw [e5] at q7; exact q7.elim
        | stuck => rw [e5] at q7; exact q7.elim
      · rw [if_neg hsz] at q7; exact q7.elim
  · have e : i = ds.length := by omega
    subst e
    rw [List.drop_length] at eq'
    have eq' : Res.ok (aD, g') = Res.ok (accF, gF) := eq'
    cases eq'
    have RF : Rel P c (restG vs g1 gF) σ H' Z' := Rel.unwipe (fun i d e => by obtain ⟨v, e1, r⟩ := R1.sl i _ e; exact ⟨v, e1, dpM s' r⟩) hv R'
    refine .inl ⟨w'.stop H' R'.sub, p1 _ H' Z' (s1.trans s') RF ⟨Dd, aV, rfl, hD', zD', d0, r', fun j hj ej => ?_⟩⟩
    have hj' : isO gF[j]? = true := by
      have : ∀ (us : List Nat) (gx : List Sl), isO (restG us g1 gx)[j]? = true → isO gx[j]? = true := by
        intro us
        induction us with
        | nil => intro gx h; exact h
        | cons u us ih =>
          intro gx h
          refine isO_set (x := keepSl g1[u]?) ?_ (ih _ h)
          cases g1[u]? with
          | none => rfl
          | some s => cases s <;> rfl
      exact this vs gF hj
    refine hn' j hj' ?_
    by_cases hjv : j ∈ vs
    · exfalso
      have : ∀ (us : List Nat) (gx : List Sl), j ∈ us → us.Nodup → isO (restG us g1 gx)[j]? = false := by
        intro us
        induction us with
        | nil => intro gx h; cases h
        | cons u us ih =>
          intro gx h hnd
          obtain ⟨h1, h2⟩ := List.nodup_cons.mp hnd
          by_cases e : j ∈ us
          · exact ih _ e h2
          · have eu : j = u := (List.mem_cons.mp h).resolve_right e
            subst eu
            have out : ∀ (us : List Nat) (gx : List Sl), j ∉ us → (restG us g1 gx)[j]? = gx[j]? := by
              intro us
              induction us with
              | nil => intro gx _; rfl
              | cons u us ih =>
                intro gx h
                simp only [List.mem_cons, not_or] at h
                show (restG us g1 (gx.set u _))[j]? = _
                rw [ih _ h.2, List.getElem?_set_ne (Ne.symm h.1)]
            show isO (restG us g1 (gx.set j _))[j]? = false
            rw [out us _ e]
            by_cases hl : j < gx.length
            · rw [List.getElem?_set_self hl]
              cases g1[j]? with
              | none => rfl
              | some s => cases s <;> rfl
            · rw [List.getElem?_eq_none (by simpa using hl)]; rfl
      rw [this vs gF hjv hv] at hj; cases hj
    · rw [L2.wipe_out hjv]; exact ej
end Mw
namespace Mw
open PySem L2

/-! ## what is walked: lists, tuples, ranges, zip -/
theorem pi_either {X : Cx} {tg l : Expr} {tl : TE} (hl : PE X l tl) : PI X tg l (fun σ H R => tl σ H fun x H1 => ∃ a, x = .ref a ∧ (((∃ xs, SqL X.K H1 a xs) ∧ R (Itl X.K a) H1) ∨ ((∃ xs, SqT X.K H1 a xs) ∧ R (Itt X.K a) H1))) := by
  refine ⟨fun pins s σ H R I h => thn (hl.run pins s σ H _ I h) fun v s1 q1 => ?_⟩
  obtain ⟨x, H1, I1, r1, a, rfl, q⟩ := q1
  cases r1
  have new : ∀ {o : Obj} (b : Addr), b ∈ [s1.heap.objs.size] → FpOk X pins H1 b := fun b hb => by
    have e : b = s1.heap.objs.size := by simpa using hb
    rw [e]
    exact I1.fpOk (Nat.le_refl _) I1.fresh
  rcases q with ⟨⟨xs, hq⟩, q⟩ | ⟨⟨xs, hq⟩, q⟩
  · obtain ⟨its, rv, p, hz⟩ := I1.list hq
    refine PySem.wpAny_pyIter_list p.isList ?_
    exact ⟨_, [s1.heap.objs.size], _, _, H1, rfl, I1.kept (t' := s1.toks) (fun b o e => Heap.get?_push_of_some _ e), turn_list a _, ⟨_, Heap.get?_push_size _ rfl, rfl, rfl⟩, new (o := default), q⟩
  · obtain ⟨its, rv, p, hz⟩ := I1.tuple hq
    refine PySem.wpAny_pyIter_tuple (show s1.heap.IsTuple a its.toArray from p) ?_
    exact ⟨_, [s1.heap.objs.size], _, _, H1, rfl, I1.kept (t' := s1.toks) (fun b o e => Heap.get?_push_of_some _ e), turn_tuple a _, ⟨_, Heap.get?_push_size _ rfl, rfl, rfl⟩, new (o := default), q⟩
def seqS' (d : D) : SM (List D) := match seqOf d with
  | some ds => ret ds
  | none => fun _ => .stuck
def seqE (da : SM EV) : SM (List D) := onE da fun ev => bnd (esc ev) seqS'
section
variable {P : Pa} {Z : Hp} {a : Addr} {ds : List D}
theorem walk_l {vs : List V} (h : Z a = some (.lst vs)) (r : DqAll P.K Z vs ds) : WalkD P Z (Itl P.K a) ds := by
  have hl := dpA_len r
  refine ⟨fun i H hi s => ?_, fun H s => ⟨vs, SqL.of (s _ _ h), by omega⟩, fun i H x H' hi s y => ?_⟩
  · have hv : i < vs.length := by omega
    exact ⟨vs, vs[i], SqL.of (s _ _ h), List.getElem?_eq_getElem hv⟩
  · obtain ⟨e, hx⟩ := y
    obtain ⟨d, e1, r1⟩ := dpA_gi r (hx vs (SqL.of (s _ _ h)))
    exact ⟨d, e1, .inl ⟨e, r1⟩⟩
theorem walk_t {vs : List V} (h : SqT P.K Z a vs) (r : DqAll P.K Z vs ds) : WalkD P Z (Itt P.K a) ds := by
  have hl := dpA_len r
  refine ⟨fun i H hi s => ?_, fun H s => ⟨vs, seqT s h, by omega⟩, fun i H x H' hi s y => ?_⟩
  · have hv : i < vs.length := by omega
    exact ⟨vs, vs[i], seqT s h, List.getElem?_eq_getElem hv⟩
  · obtain ⟨e, hx⟩ := y
    obtain ⟨d, e1, r1⟩ := dpA_gi r (hx vs (seqT s h))
    exact ⟨d, e1, .inl ⟨e, r1⟩⟩
end
theorem mi_seq {X : Cx} {P : Pa} {W : WX} {tg e : Expr} {da : SM EV} (hK : P.K = X.K) (he : PE X e (TEo P W da)) : PI X tg e (TIo P W (seqE da)) :=
  piW (pi_either he) fun σ H R' ⟨c, g, Z, R, p⟩ => by
    refine TEo.on R p fun ev g1 v H1 Z1 s1 R1 vp p1 => ?_
    obtain ⟨d, g2, Z2, s2, R2, r2, p2⟩ := esc_ok R1 vp (post_bnd.mp p1)
    cases d with
    | list ds =>
      cases r2 with
      | lst h1 h2 => exact ⟨_, rfl, .inl ⟨⟨_, SqL.of (R2.sub _ _ h1)⟩, by rw [← hK]; exact p2 H1 Z2 _ (s1.trans s2) R2 (walk_l h1 h2)⟩⟩
    | tuple ds =>
      cases r2 with
      | tup h1 h2 => exact ⟨_, rfl, .inr ⟨⟨_, by rw [← hK]; exact seqT R2.sub h1⟩, by rw [← hK]; exact p2 H1 Z2 _ (s1.trans s2) R2 (walk_t h1 h2)⟩⟩
    | none => exact p2.elim
    | bool _ => exact p2.elim
    | int _ => exact p2.elim
    | str _ => exact p2.elim
    | dict _ => exact p2.elim
/-- lo, lo + 1, .. -/
def rngL : Int → Nat → List D
  | _, 0 => []
  | lo, n + 1 => .int lo :: rngL (lo + 1) n
theorem rngL_len : ∀ (lo : Int) (n : Nat), (rngL lo n).length = n
  | _, 0 => rfl
  | lo, n + 1 => by rw [rngL, List.length_cons, rngL_len]
theorem rngL_get : ∀ (lo : Int) (n i : Nat), i < n → (rngL lo n)[i]? = some (.int (lo + i))
  | _, 0, _, h => absurd h (Nat.not_lt_zero _)
  | lo, n + 1, 0, _ => by rw [rngL]; simp
  | lo, n + 1, i + 1, h => by
    rw [rngL, List.getElem?_cons_succ, rngL_get (lo + 1) n i (by omega)]
    congr 2; omega
/-- lo, lo - 1, .. -/
def rngD : Int → Nat → List D
  | _, 0 => []
  | lo, n + 1 => .int lo :: rngD (lo - 1) n
theorem rngD_len : ∀ (lo : Int) (n : Nat), (rngD lo n).length = n
  | _, 0 => rfl
  | lo, n + 1 => by rw [rngD, List.length_cons, rngD_len]
theorem rngD_get : ∀ (lo : Int) (n i : Nat), i < n → (rngD lo n)[i]? = some (.int (lo + i * (-1)))
  | _, 0, _, h => absurd h (Nat.not_lt_zero _)
  | lo, n + 1, 0, _ => by rw [rngD]; simp
  | lo, n + 1, i + 1, h => by
    rw [rngD, List.getElem?_cons_succ, rngD_get (lo - 1) n i (by omega)]
    congr 2; omega
def rOk (i : Int) : Bool := decide (-(2 ^ 62) ≤ i ∧ i < 2 ^ 62)
def rngF1 : List D → Option (List D)
  | [.int j] => if rOk j then some (rngL 0 j.toNat) else none
  | _ => none
def rngF2 : List D → Option (List D)
  | [.int i, .int j] => if rOk i && rOk j then some (rngL i (j - i).toNat) else none
  | _ => none
def rngF3 : List D → Option (List D)
  | [.int i, .int j, .int k] => if rOk i && rOk j && decide (k = -1) then some (rngD i (i - j).toNat) else none
  | _ => none
def rngE (f : List D → Option (List D)) (da : SM (List EV)) : SM (List D) := bnd da fun evs => fun g => match (lookL g evs).bind f with
  | some ds => .ok (ds, g)
  | none => .stuck
section
variable {X : Cx} {P : Pa} {W : WX} {tg a b k : Expr} {p0 pos : Pos} {da : SM (List EV)}
theorem walk_r {Z : Hp} {lo : Int} {n : Nat} : WalkD P Z (Itr lo n) (rngL lo n) :=
  ⟨fun i H hi s => by rw [rngL_len] at hi; exact hi, fun H s => by rw [rngL_len]; exact Nat.le_refl _, fun i H x H' hi s y => by
    rw [rngL_len] at hi
    obtain ⟨e, ex⟩ := y
    exact ⟨_, rngL_get lo n i hi, .inl ⟨e, by rw [ex]; exact .int _⟩⟩⟩
theorem walk_d {Z : Hp} {lo : Int} {n : Nat} : WalkD P Z (Itc lo (-1) n) (rngD lo n) := by
  have w := walk_rangeC (lo := lo) (c := -1) (n := n)
  refine ⟨fun i H hi s => w.goes i H (by rw [rngD_len] at hi; exact hi) trivial, fun H s => by rw [rngD_len]; exact w.stops H trivial, fun i H x H' hi s y => ?_⟩
  rw [rngD_len] at hi
  obtain ⟨e, ex⟩ := w.yields i H x H' hi trivial y
  exact ⟨_, rngD_get lo n i hi, .inl ⟨e, by rw [ex]; exact .int _⟩⟩
theorem rOk_iff {i : Int} (h : rOk i = true) : -(2 ^ 62) ≤ i ∧ i < 2 ^ 62 := of_decide_eq_true h
/-- what the arguments of range are -/
theorem rng_on {f : List D → Option (List D)} {c : Ctx} {g : List Sl} {σ : St} {H Z : Hp} {R' : List V → Hp → Prop} {ok : List D → List Sl → Prop} (R : Rel P c g σ H Z) (p : Post ok (exK P c σ W) (rngE f da g))
    (h : ∀ ds es vs g1 H1 Z1, Same Z Z1 → Rel P c g1 σ H1 Z1 → f es = some ds → RrL P.K H1 Z1 vs es → ok ds g1 → R' vs H1) : TAo P W da σ H R' :=
  TAo.on R p fun evs g1 vs H1 Z1 s1 R1 vp p1 => by
    cases e1 : lookL g1 evs with
    | none => rw [e1] at p1; exact p1.elim
    | some es =>
      rw [e1] at p1
      simp only [Option.bind_some] at p1
      cases e2 : f es with
      | none => rw [e2] at p1; exact p1.elim
      | some ds => rw [e2] at p1; exact h ds es vs g1 H1 Z1 s1 R1 e2 (lookL_rr R1 vp e1) p1
theorem rngF1_inv {es : List D} {ds : List D} (h : rngF1 es = some ds) : ∃ j, es = [.int j] ∧ rOk j = true ∧ ds = rngL 0 j.toNat := by
  unfold rngF1 at h
  split at h
  · rename_i j
    cases e : rOk j with
    | false => rw [e, if_neg Bool.false_ne_true] at h; cases h
    | true => rw [e, if_pos rfl] at h; cases h; exact ⟨j, rfl, e, rfl⟩
  · cases h
theorem rngF2_inv {es : List D} {ds : List D} (h : rngF2 es = some ds) : ∃ i j, es = [.int i, .int j] ∧ rOk i = true ∧ rOk j = true ∧ ds = rngL i (j - i).toNat := by
  unfold rngF2 at h
  split at h
  · rename_i i j
    cases e : (rOk i && rOk j) with
    | false => rw [e, if_neg Bool.false_ne_true] at h; cases h
    | true => rw [e, if_pos rfl] at h; cases h; obtain ⟨a, b⟩ := Bool.and_eq_true_iff.mp e; exact ⟨i, j, rfl, a, b, rfl⟩
  · cases h
theorem rngF3_inv {es : List D} {ds : List D} (h : rngF3 es = some ds) : ∃ i j, es = [.int i, .int j, .int (-1)] ∧ rOk i = true ∧ rOk j = true ∧ ds = rngD i (i - j).toNat := by
  unfold rngF3 at h
  split at h
  · rename_i i j k
    cases e : (rOk i && rOk j && decide (k = -1)) with
    | false => rw [e, if_neg Bool.false_ne_true] at h; cases h
    | true =>
      rw [e, if_pos rfl] at h; cases h
      obtain ⟨ab, c⟩ := Bool.and_eq_true_iff.mp e
      obtain ⟨a, b⟩ := Bool.and_eq_true_iff.mp ab
      exact ⟨i, j, by rw [of_decide_eq_true c], a, b, rfl⟩
  · cases h
theorem mi_rng1 (hg : Gl X "range") (hm : X.mg "range" = none) (ha : PA X [a] (TAo P W da)) (hs : starEach [a] X.env = [(false, eval a X.env)] := by rfl) : PI X tg (.Call (.Name "range" p0) [a] [] pos) (TIo P W (rngE rngF1 da)) :=
  piW (pi_range1 hg hm ha hs) fun σ H R' ⟨c, g, Z, R, p⟩ => rng_on R p fun ds es vs g1 H1 Z1 s1 R1 e2 rl q => by
    obtain ⟨j, rfl, h1, rfl⟩ := rngF1_inv e2
    cases rl with
    | cons h r =>
      cases r
      exact ⟨j, by rw [h.int], (rOk_iff h1).1, (rOk_iff h1).2, q H1 Z1 _ s1 R1 walk_r⟩
theorem mi_rng2 (hg : Gl X "range") (hm : X.mg "range" = none) (ha : PA X [a, b] (TAo P W da)) (hs : starEach [a, b] X.env = [(false, eval a X.env), (false, eval b X.env)] := by rfl) (hs2 : starEach [b] X.env = [(false, eval b X.env)] := by rfl) : PI X tg (.Call (.Name "range" p0) [a, b] [] pos) (TIo P W (rngE rngF2 da)) :=
  piW (pi_range2 hg hm ha hs hs2) fun σ H R' ⟨c, g, Z, R, p⟩ => rng_on R p fun ds es vs g1 H1 Z1 s1 R1 e2 rl q => by
    obtain ⟨i, j, rfl, h1, h2, rfl⟩ := rngF2_inv e2
    cases rl with
    | cons h r =>
      cases r with
      | cons h' r =>
        cases r
        exact ⟨i, j, by rw [h.int, h'.int], ⟨(rOk_iff h1).1, (rOk_iff h1).2, (rOk_iff h2).1, (rOk_iff h2).2⟩, q H1 Z1 _ s1 R1 walk_r⟩
theorem mi_rng3 {hx : PI X tg (.Call (.Name "range" p0) [a, b, k] [] pos) (iRng3 (TAo P W da))} : PI X tg (.Call (.Name "range" p0) [a, b, k] [] pos) (TIo P W (rngE rngF3 da)) :=
  piW hx fun σ H R' ⟨c, g, Z, R, p⟩ => rng_on R p fun ds es vs g1 H1 Z1 s1 R1 e2 rl q => by
    obtain ⟨i, j, rfl, h1, h2, rfl⟩ := rngF3_inv e2
    cases rl with
    | cons h r =>
      cases r with
      | cons h' r =>
        cases r with
        | cons h'' r =>
          cases r
          exact ⟨i, j, -1, _, by rw [h.int, h'.int, h''.int], RgC.neg (rOk_iff h1).1 (rOk_iff h1).2 (rOk_iff h2).1 (rOk_iff h2).2, q H1 Z1 _ s1 R1 walk_d⟩
end

/-! ## comprehensions as expressions, as assignments -/
section
variable {X : Cx} {P : Pa} {W : WX} {elt tg iter : Expr} {ifs : List Expr} {scope : Scope} {own : List (Str × Nat)} {pos : Pos} {it : SM (List D)} {t : Tg} {q : SM Bool} {el : SM EV} {tt : TT}
theorem tt_nil : ∀ σ H Q, TTo P W0 (ret true) σ H Q → tYes σ H Q := fun σ H Q ⟨c, g, Z, R, p⟩ => p H Z (Same.refl _) R
theorem tt_one : ∀ σ H Q, TTo P W0 q σ H Q → TTo P W0 q σ H Q := fun _ _ _ h => h
theorem me_lc (hc : X.calm = true) (hN : X.N.Nodup) (hi : PI X tg iter (TIo P W it)) (ok : BlkOk X.N X.env.scope scope own)
    (hg : ∀ (s : Shared) (H : Hp) (C : Addr) (cl : List (Str × Addr)) (fp : List Addr), PG (X.blk s H scope (compEnvC scope cl C X.env) fp) tg (TGo P t)) (ht : ∀ (s : Shared) (H : Hp) (C : Addr) (cl : List (Str × Addr)) (fp : List Addr), PTs (X.blk s H scope (compEnvC scope cl C X.env) fp) ifs tt)
    (he : ∀ (s : Shared) (H : Hp) (C : Addr) (cl : List (Str × Addr)) (fp : List Addr), PE (X.blk s H scope (compEnvC scope cl C X.env) fp) elt (TEo P W0 el)) (htt : ∀ σ H Q, TTo P W0 q σ H Q → tt σ H Q) (hv : (own.map (·.2)).Nodup) (hs : ∀ i ∈ t.slots, i ∈ own.map (·.2))
    (hf : ∀ x, foldedSetIterable iter X.env x = pure x := by intro _; rfl) :
    PE X (.ListComp elt [⟨tg, iter, ifs, 0⟩] scope pos) (TEo P W (lcE (own.map (·.2)) it t q el)) := peW (pe_lc hc hN hi ok hg ht he hf) (lc_w hv hs htt)
end

/-! ## calls of built-ins -/
def lenF : List D → Option Out
  | [.list ds] => vI (ds.length : Nat)
  | [.tuple ds] => vI (ds.length : Nat)
  | [.str z] => gd (decide (z.length ≤ SZ)) (vI (z.length : Nat))
  | _ => none
def intF : List D → Option Out
  | [.int i] => vI i
  | [.bool k] => vI (if k then 1 else 0)
  | _ => none
def absF : List D → Option Out
  | [.int i] => vI (if i < 0 then -i else i)
  | _ => none
def maxF : List D → Option Out
  | [.int i, .int j] => vI (if j > i then j else i)
  | _ => none
def minF : List D → Option Out
  | [.int i, .int j] => vI (if j < i then j else i)
  | _ => none
def intsOf : List D → Option (List Int)
  | [] => some []
  | .int i :: r => (intsOf r).map (i :: ·)
  | _ => none
def blsOf : List D → Option (List Bool)
  | [] => some []
  | .bool i :: r => (blsOf r).map (i :: ·)
  | _ => none
def sumF : List D → Option Out
  | [.list ds] => (intsOf ds).bind fun ns => vI ns.sum
  | _ => none
def maxL : List Int → Int
  | [] => 0
  | x :: r => r.foldl (fun a b => if b > a then b else a) x
def minL : List Int → Int
  | [] => 0
  | x :: r => r.foldl (fun a b => if b < a then b else a) x
def maxLF : List D → Option Out
  | [.list ds] => (intsOf ds).bind fun ns => gd (!ns.isEmpty) (vI (maxL ns))
  | _ => none
def minLF : List D → Option Out
  | [.list ds] => (intsOf ds).bind fun ns => gd (!ns.isEmpty) (vI (minL ns))
  | _ => none
def allF : List D → Option Out
  | [.list ds] => (blsOf ds).bind fun bs => vB (bs.all id)
  | _ => none
def anyF : List D → Option Out
  | [.list ds] => (blsOf ds).bind fun bs => vB (bs.any id)
  | _ => none
def listF : List D → Option Out
  | [.list ds] => some (.lstN ds)
  | [.tuple ds] => some (.lstN ds)
  | _ => none
def tupleF : List D → Option Out
  | [.list ds] => some (.tupN ds)
  | [.tuple ds] => some (.val (.tuple ds))
  | _ => none
def insI (x : Int) : List Int → List Int
  | [] => [x]
  | y :: r => if x ≤ y then x :: y :: r else y :: insI x r
def isortI : List Int → List Int
  | [] => []
  | x :: r => insI x (isortI r)
def sortedF : List D → Option Out
  | [.list ds] => (intsOf ds).bind fun ns => some (.lstN ((isortI ns).map PyData.int))
  | _ => none
section
variable {X : Cx} {K : PySem.W.Frag}
theorem intsOf_map : ∀ {ds : List D} {ns : List Int}, intsOf ds = some ns → ds = ns.map PyData.int
  | [], _, h => by cases h; rfl
  | d :: ds, ns, h => by
    cases d with
    | int i =>
      unfold intsOf at h
      cases e : intsOf ds with
      | none => rw [e] at h; cases h
      | some ms => rw [e] at h; cases h; rw [intsOf_map e]; rfl
    | _ => cases h
theorem intsOf_ints : ∀ ns : List Int, intsOf (ns.map PyData.int) = some ns
  | [] => rfl
  | n :: ns => by rw [List.map_cons, intsOf, intsOf_ints ns]; rfl
theorem blsOf_map : ∀ {ds : List D} {ns : List Bool}, blsOf ds = some ns → ds = ns.map PyData.bool
  | [], _, h => by cases h; rfl
  | d :: ds, ns, h => by
    cases d with
    | bool i =>
      unfold blsOf at h
      cases e : blsOf ds with
      | none => rw [e] at h; cases h
      | some ms => rw [e] at h; cases h; rw [blsOf_map e]; rfl
    | _ => cases h
theorem blsOf_bls : ∀ ns : List Bool, blsOf (ns.map PyData.bool) = some ns
  | [] => rfl
  | n :: ns => by rw [List.map_cons, blsOf, blsOf_bls ns]; rfl
theorem one_inv {H Z : Hp} {xs : List V} {d : D} (h : RrL K H Z xs [d]) : ∃ v, xs = [v] ∧ Rr K H Z v d := by
  cases h with | cons h r => cases r; exact ⟨_, rfl, h⟩
theorem two_inv {H Z : Hp} {xs : List V} {d e : D} (h : RrL K H Z xs [d, e]) : ∃ v w, xs = [v, w] ∧ Rr K H Z v d ∧ Rr K H Z w e := by
  cases h with | cons h r => cases r with | cons h' r => cases r; exact ⟨_, _, rfl, h, h'⟩
def rLenA (K : PySem.W.Frag) : List V → Hp → VK → Prop := fun xs H Q => (∃ p ys, xs = [.ref p] ∧ (SqL K H p ys ∨ SqT K H p ys) ∧ Q (.int ys.length) H) ∨ ∃ z, xs = [.str z] ∧ z.length ≤ sizeLine ∧ Q (.int z.length) H
theorem c_len : CallR X (.builtin "len") (rLenA X.K) := CallR.or call_len_seq call_len_str
theorem s_len : SoundN K (rLenA K) lenF := by
  intro H Z xs ds o Q s h e q
  unfold lenF at e
  split at e
  · cases e
    obtain ⟨v, rfl, r⟩ := one_inv h
    obtain ⟨a, vs, rfl, h1, r1⟩ := r.lst s
    exact .inl ⟨a, vs, rfl, .inl (SqL.of h1), by rw [dpA_len r1]; exact q _ (.int _)⟩
  · cases e
    obtain ⟨v, rfl, r⟩ := one_inv h
    obtain ⟨a, vs, rfl, h1, r1⟩ := r.tup s
    exact .inl ⟨a, vs, rfl, .inr h1, by rw [dpA_len r1]; exact q _ (.int _)⟩
  · obtain ⟨hb, e⟩ := gd_some e; cases e
    obtain ⟨v, rfl, r⟩ := one_inv h
    exact .inr ⟨_, by rw [r.str], by rw [← SZ_eq]; exact of_decide_eq_true hb, q _ (.int _)⟩
  · cases e
theorem s_int : SoundN K (fun xs H Q => (∃ i, xs = [.int i] ∧ Q (.int i) H) ∨ ∃ k, xs = [.bl k] ∧ Q (.int (if k then 1 else 0)) H) intF := by
  intro H Z xs ds o Q s h e q
  unfold intF at e
  split at e
  · cases e; obtain ⟨v, rfl, r⟩ := one_inv h; exact .inl ⟨_, by rw [r.int], q _ (.int _)⟩
  · cases e; obtain ⟨v, rfl, r⟩ := one_inv h; exact .inr ⟨_, by rw [r.bl], q _ (.int _)⟩
  · cases e
theorem s_abs : SoundN K (fun xs H Q => ∃ i, xs = [.int i] ∧ Q (.int (if i < 0 then -i else i)) H) absF := by
  intro H Z xs ds o Q s h e q
  unfold absF at e
  split at e
  · cases e; obtain ⟨v, rfl, r⟩ := one_inv h; exact ⟨_, by rw [r.int], q _ (.int _)⟩
  · cases e
theorem s_max : SoundN K (fun xs H Q => ∃ i j, xs = [.int i, .int j] ∧ Q (.int (if j > i then j else i)) H) maxF := by
  intro H Z xs ds o Q s h e q
  unfold maxF at e
  split at e
  · cases e; obtain ⟨v, w, rfl, r, r'⟩ := two_inv h; exact ⟨_, _, by rw [r.int, r'.int], q _ (.int _)⟩
  · cases e
theorem s_min : SoundN K (fun xs H Q => ∃ i j, xs = [.int i, .int j] ∧ Q (.int (if j < i then j else i)) H) minF := by
  intro H Z xs ds o Q s h e q
  unfold minF at e
  split at e
  · cases e; obtain ⟨v, w, rfl, r, r'⟩ := two_inv h; exact ⟨_, _, by rw [r.int, r'.int], q _ (.int _)⟩
  · cases e
/-- a list of ints as an argument -/
theorem lints {H Z : Hp} {xs : List V} {ds : List D} {ns : List Int} (s : Same Z H) (h : RrL K H Z xs [.list ds]) (e : intsOf ds = some ns) : ∃ a, xs = [.ref a] ∧ SqL K H a (ns.map V.int) := by
  obtain ⟨v, rfl, r⟩ := one_inv h
  obtain ⟨a, vs, rfl, h1, r1⟩ := r.lst s
  rw [intsOf_map e] at r1
  exact ⟨a, rfl, by rw [← dpA_ints r1]; exact SqL.of h1⟩
theorem lbls {H Z : Hp} {xs : List V} {ds : List D} {ns : List Bool} (s : Same Z H) (h : RrL K H Z xs [.list ds]) (e : blsOf ds = some ns) : ∃ a, xs = [.ref a] ∧ SqL K H a (ns.map V.bl) := by
  obtain ⟨v, rfl, r⟩ := one_inv h
  obtain ⟨a, vs, rfl, h1, r1⟩ := r.lst s
  rw [blsOf_map e] at r1
  exact ⟨a, rfl, by rw [← dpA_bls r1]; exact SqL.of h1⟩
theorem s_sum : SoundN K (rSum K) sumF := by
  intro H Z xs ds o Q s h e q
  unfold sumF at e
  split at e
  · rename_i es
    cases e1 : intsOf es with
    | none => rw [e1] at e; cases e
    | some ns => rw [e1] at e; cases e; obtain ⟨a, rfl, h1⟩ := lints s h e1; exact ⟨a, ns, rfl, h1, q _ (.int _)⟩
  · cases e
theorem s_all : SoundN K (rAll K) allF := by
  intro H Z xs ds o Q s h e q
  unfold allF at e
  split at e
  · rename_i es
    cases e1 : blsOf es with
    | none => rw [e1] at e; cases e
    | some ns => rw [e1] at e; cases e; obtain ⟨a, rfl, h1⟩ := lbls s h e1; exact ⟨a, ns, rfl, h1, q _ (.bl _)⟩
  · cases e
theorem s_any : SoundN K (rAny K) anyF := by
  intro H Z xs ds o Q s h e q
  unfold anyF at e
  split at e
  · rename_i es
    cases e1 : blsOf es with
    | none => rw [e1] at e; cases e
    | some ns => rw [e1] at e; cases e; obtain ⟨a, rfl, h1⟩ := lbls s h e1; exact ⟨a, ns, rfl, h1, q _ (.bl _)⟩
  · cases e
theorem foldmax : ∀ (r : List Int) (x : Int), (r.foldl (fun a b => if b > a then b else a) x ∈ x :: r) ∧ ∀ y ∈ x :: r, y ≤ r.foldl (fun a b => if b > a then b else a) x
  | [], x => ⟨by simp, fun y hy => by simp at hy; rw [hy]; exact Int.le_refl _⟩
  | z :: r, x => by
    obtain ⟨h1, h2⟩ := foldmax r (if z > x then z else x)
    rw [List.foldl_cons]
    refine ⟨?_, fun y hy => ?_⟩
    · rcases List.mem_cons.mp h1 with h | h
      · rw [h]; by_cases hz : z > x
        · rw [if_pos hz]; simp
        · rw [if_neg hz]; simp
      · exact List.mem_cons_of_mem _ (List.mem_cons_of_mem _ h)
    · have hx := h2 _ List.mem_cons_self
      rcases List.mem_cons.mp hy with rfl | hy
      · refine Int.le_trans ?_ hx; by_cases hz : z > y <;> simp [hz] <;> omega
      · rcases List.mem_cons.mp hy with rfl | hy
        · refine Int.le_trans ?_ hx; by_cases hz : y > x <;> simp [hz] <;> omega
        · exact h2 y (List.mem_cons_of_mem _ hy)
theorem foldmin : ∀ (r : List Int) (x : Int), (r.foldl (fun a b => if b < a then b else a) x ∈ x :: r) ∧ ∀ y ∈ x :: r, r.foldl (fun a b => if b < a then b else a) x ≤ y
  | [], x => ⟨by simp, fun y hy => by simp at hy; rw [hy]; exact Int.le_refl _⟩
  | z :: r, x => by
    obtain ⟨h1, h2⟩ := foldmin r (if z < x then z else x)
    rw [List.foldl_cons]
    refine ⟨?_, fun y hy => ?_⟩
    · rcases List.mem_cons.mp h1 with h | h
      · rw [h]; by_cases hz : z < x
        · rw [if_pos hz]; simp
        · rw [if_neg hz]; simp
      · exact List.mem_cons_of_mem _ (List.mem_cons_of_mem _ h)
    · have hx := h2 _ List.mem_cons_self
      rcases List.mem_cons.mp hy with rfl | hy
      · refine Int.le_trans hx ?_; by_cases hz : z < y <;> simp [hz] <;> omega
      · rcases List.mem_cons.mp hy with rfl | hy
        · refine Int.le_trans hx ?_; by_cases hz : y < x <;> simp [hz] <;> omega
        · exact h2 y (List.mem_cons_of_mem _ hy)
theorem s_maxL : SoundN K (rMax K) maxLF := by
  intro H Z xs ds o Q s h e q
  unfold maxLF at e
  split at e
  · rename_i es
    cases e1 : intsOf es with
    | none => rw [e1] at e; cases e
    | some ns =>
      rw [e1] at e
      obtain ⟨hb, e⟩ := gd_some e; cases e
      obtain ⟨a, rfl, h1⟩ := lints s h e1
      cases ns with
      | nil => cases hb
      | cons x r =>
        refine ⟨a, _, rfl, h1, Nat.zero_lt_succ _, fun m hm hle => ?_⟩
        obtain ⟨k1, k2⟩ := foldmax r x
        have : m = maxL (x :: r) := Int.le_antisymm (k2 m hm) (hle _ k1)
        rw [this]; exact q _ (.int _)
  · cases e
theorem s_minL : SoundN K (rMin K) minLF := by
  intro H Z xs ds o Q s h e q
  unfold minLF at e
  split at e
  · rename_i es
    cases e1 : intsOf es with
    | none => rw [e1] at e; cases e
    | some ns =>
      rw [e1] at e
      obtain ⟨hb, e⟩ := gd_some e; cases e
      obtain ⟨a, rfl, h1⟩ := lints s h e1
      cases ns with
      | nil => cases hb
      | cons x r =>
        refine ⟨a, _, rfl, h1, Nat.zero_lt_succ _, fun m hm hle => ?_⟩
        obtain ⟨k1, k2⟩ := foldmin r x
        have : m = minL (x :: r) := Int.le_antisymm (hle _ k1) (k2 m hm)
        rw [this]; exact q _ (.int _)
  · cases e
theorem s_list : SoundN K (fun xs H Q => ∃ p ys, xs = [.ref p] ∧ (SqL K H p ys ∨ SqT K H p ys) ∧ ∀ l, H l = none → Q (.ref l) (upd H l (.lst ys))) listF := by
  intro H Z xs ds o Q s h e q
  unfold listF at e
  split at e
  · cases e; obtain ⟨v, rfl, r⟩ := one_inv h; obtain ⟨a, vs, rfl, h1, r1⟩ := r.lst s; exact ⟨a, vs, rfl, .inl (SqL.of h1), fun l hl => q l vs hl r1⟩
  · cases e; obtain ⟨v, rfl, r⟩ := one_inv h; obtain ⟨a, vs, rfl, h1, r1⟩ := r.tup s; exact ⟨a, vs, rfl, .inr h1, fun l hl => q l vs hl r1⟩
  · cases e
theorem s_tuple : SoundN K (fun xs H Q => ∃ p ys, xs = [.ref p] ∧ ((SqL K H p ys ∧ ∀ l, H l = none → Q (.ref l) (upd H l (.tup ys))) ∨ (SqT K H p ys ∧ Q (.ref p) H))) tupleF := by
  intro H Z xs ds o Q s h e q
  unfold tupleF at e
  split at e
  · cases e; obtain ⟨v, rfl, r⟩ := one_inv h; obtain ⟨a, vs, rfl, h1, r1⟩ := r.lst s; exact ⟨a, vs, rfl, .inl ⟨SqL.of h1, fun l hl => q.2 l vs hl r1⟩⟩
  · cases e; obtain ⟨v, rfl, r⟩ := one_inv h; obtain ⟨a, vs, e2, h1, r1⟩ := r.tup s; exact ⟨a, vs, by rw [e2], .inr ⟨h1, by rw [← e2]; exact q _ r.tupz⟩⟩
  · cases e
theorem insI_perm (x : Int) : ∀ r : List Int, (insI x r).Perm (x :: r)
  | [] => .refl _
  | y :: r => by
    unfold insI
    by_cases h : x ≤ y
    · rw [if_pos h]
    · rw [if_neg h]; exact ((insI_perm x r).cons y).trans (List.Perm.swap x y r)
theorem insI_sorted (x : Int) : ∀ {r : List Int}, r.Pairwise (· ≤ ·) → (insI x r).Pairwise (· ≤ ·)
  | [], _ => by simp [insI]
  | y :: r, h => by
    unfold insI
    obtain ⟨h1, h2⟩ := List.pairwise_cons.mp h
    by_cases hx : x ≤ y
    · rw [if_pos hx]
      refine List.pairwise_cons.mpr ⟨fun z hz => ?_, h⟩
      rcases List.mem_cons.mp hz with rfl | hz
      · exact hx
      · exact Int.le_trans hx (h1 z hz)
    · rw [if_neg hx]
      refine List.pairwise_cons.mpr ⟨fun z hz => ?_, insI_sorted x h2⟩
      rcases List.mem_cons.mp ((insI_perm x r).mem_iff.mp hz) with rfl | hz
      · omega
      · exact h1 z hz
theorem isortI_perm : ∀ r : List Int, (isortI r).Perm r
  | [] => .refl _
  | x :: r => (insI_perm x _).trans ((isortI_perm r).cons x)
theorem isortI_sorted : ∀ r : List Int, (isortI r).Pairwise (· ≤ ·)
  | [] => .nil
  | x :: r => insI_sorted x (isortI_sorted r)
theorem eq_sorted {a b : List Int} (hp : a.Perm b) (ha : a.Pairwise (· ≤ ·)) (hb : b.Pairwise (· ≤ ·)) : a = b :=
  hp.eq_of_pairwise (fun x y _ _ h1 h2 => Int.le_antisymm h1 h2) ha hb
theorem s_sorted : SoundN K (rSortedI K) sortedF := by
  intro H Z xs ds o Q s h e q
  unfold sortedF at e
  split at e
  · rename_i es
    cases e1 : intsOf es with
    | none => rw [e1] at e; cases e
    | some ns =>
      rw [e1] at e; cases e
      obtain ⟨a, rfl, h1⟩ := lints s h e1
      refine ⟨a, ns, rfl, h1, fun ns' p hp hs hn => ?_⟩
      have : ns' = isortI ns := eq_sorted (hp.trans (isortI_perm ns).symm) hs (isortI_sorted ns)
      rw [this]
      exact q p _ hn (dpA_of_ints _)
  · cases e
end
end Mw
namespace Mw
open PySem L2

/-! ## is None, is True -/
def isNF (d : D) : Option Out := vB (isNon d)
def noNF (d : D) : Option Out := vB (!isNon d)
theorem rr_non {K : PySem.W.Frag} {H Z : Hp} {v : V} {d : D} (h : Rr K H Z v d) : decide (v = .non) = isNon d := by
  cases h with
  | z h => cases h <;> rfl
  | l h r => rfl
theorem rr_bl {K : PySem.W.Frag} {H Z : Hp} {v : V} {d : D} {b : Bool} (h : Rr K H Z v d) : decide (v = .bl b) = isBl b d := by
  cases h with
  | z h => cases h <;> first | rfl | (rename_i c; cases b <;> cases c <;> rfl)
  | l h r => rfl
section
variable {X : Cx} {P : Pa} {W : WX} {e a b c : Expr} {pos pos' : Pos}
theorem me_isN {j} {da : SM EV} (ha : PE X a (TEo P W da)) : PE X (.Compare a [.Is] [.Constant .none j pos'] pos) (TEo P W (op1 isNF da)) :=
  peW (pe_cmp (pc_isN ha)) fun σ H Q ⟨c, g, Z, R, p⟩ => TEo.on R p fun x g1 v H1 Z1 s1 R1 vx p1 =>
    app1_ok (r := fun x H Q => Q (.bl (decide (x = .non))) H) (fun H Z x d o Q s h e q => by cases e; rw [rr_non h]; exact q _ (.bl _)) R1 vx p1 fun o q => out_fin R1 s1 q
theorem me_noN {j} {da : SM EV} (ha : PE X a (TEo P W da)) : PE X (.Compare a [.IsNot] [.Constant .none j pos'] pos) (TEo P W (op1 noNF da)) :=
  peW (pe_cmp (pc_notN ha)) fun σ H Q ⟨c, g, Z, R, p⟩ => TEo.on R p fun x g1 v H1 Z1 s1 R1 vx p1 =>
    app1_ok (r := fun x H Q => Q (.bl (!decide (x = .non))) H) (fun H Z x d o Q s h e q => by cases e; rw [rr_non h]; exact q _ (.bl _)) R1 vx p1 fun o q => out_fin R1 s1 q
theorem op_isB : OpR X (compareOp .Is) (fun x y H Q => ∃ b, y = .bl b ∧ Q (.bl (decide (x = .bl b))) H) := by
  intro pins s σ H x y v u Q I rx ry h
  obtain ⟨b, rfl, q⟩ := h
  cases (show u = Value.bool b from ry)
  cases x with
  | bl k =>
    cases (show v = Value.bool k from rx)
    exact PySem.wpAny_pure ⟨.bl _, H, I, by
      show Value.bool (Value.bool k == Value.bool b) = Value.bool (decide (V.bl k = V.bl b))
      cases k <;> cases b <;> rfl, q⟩
  | non => cases (show v = Value.none from rx); exact PySem.wpAny_pure ⟨.bl _, H, I, rfl, q⟩
  | int i => obtain ⟨t, rfl⟩ := rx; exact PySem.wpAny_pure ⟨.bl _, H, I, rfl, q⟩
  | str i => obtain ⟨t, rfl⟩ := rx; exact PySem.wpAny_pure ⟨.bl _, H, I, rfl, q⟩
  | byt i => obtain ⟨t, rfl⟩ := rx; exact PySem.wpAny_pure ⟨.bl _, H, I, rfl, q⟩
  | flt i => obtain ⟨t, rfl⟩ := rx; exact PySem.wpAny_pure ⟨.bl _, H, I, rfl, q⟩
  | ref i => cases (show v = Value.ref i from rx); exact PySem.wpAny_pure ⟨.bl _, H, I, rfl, q⟩
  | ty i => cases (show v = Value.type i from rx); exact PySem.wpAny_pure ⟨.bl _, H, I, rfl, q⟩
def isBD : D → D → Option Out
  | d, .bool b => vB (isBl b d)
  | _, _ => none
theorem s_isB {K : PySem.W.Frag} : Sound2 K (fun x y H Q => ∃ b, y = .bl b ∧ Q (.bl (decide (x = .bl b))) H) isBD := by
  intro H Z x y d e o Q s hx hy h q
  unfold isBD at h
  split at h
  · cases h; exact ⟨_, hy.bl, by rw [rr_bl hx]; exact q _ (.bl _)⟩
  · cases h

/-! ## chains -/
def chE (f f' : D → D → Option Out) (da db dc : SM EV) : SM EV := onE da fun x => onE db fun y => bnd (tstE (app2 f x y)) fun k => if k then onE dc fun z => app2 f' y z else ret (.fro (.bool false))
theorem tst_app2 {β : Type} {f : D → D → Option Out} {x y : EV} {g : List Sl} {k : Bool → SM β} {ok : β → List Sl → Prop} {ex : Nat → Str → D → List Sl → Prop} (p : Post ok ex (bnd (tstE (app2 f x y)) k g)) :
    ∃ d e b, look g x = some d ∧ look g y = some e ∧ f d e = some (.val (.bool b)) ∧ Post ok ex (k b g) := by
  have p1 := post_bnd.mp (post_bnd.mp p)
  unfold app2 at p1
  cases e1 : look g x with
  | none => rw [e1] at p1; exact p1.elim
  | some d =>
    cases e2 : look g y with
    | none => rw [e1, e2] at p1; exact p1.elim
    | some e =>
      rw [e1, e2] at p1
      simp only [Option.bind_some] at p1
      cases e3 : f d e with
      | none => rw [e3] at p1; exact p1.elim
      | some o =>
        rw [e3] at p1
        cases o with
        | tupN ds => exact p1.elim
        | lstN ds => exact p1.elim
        | val r =>
          cases r with
          | bool b => exact ⟨d, e, b, rfl, rfl, e3, p1⟩
          | none => exact p1.elim
          | int _ => exact p1.elim
          | str _ => exact p1.elim
          | list _ => exact p1.elim
          | tuple _ => exact p1.elim
          | dict _ => exact p1.elim
theorem ch_on {r r' : R2} {f f' : D → D → Option Out} {da db dc : SM EV} (so : Sound2 P.K r f) (so' : Sound2 P.K r' f') : ∀ σ H Q, TEo P W (chE f f' da db dc) σ H Q → tChain r r' (TEo P W da) (TEo P W db) (TEo P W dc) σ H Q :=
  fun σ H Q ⟨c, g, Z, R, p⟩ => TEo.on R p fun x g1 v H1 Z1 s1 R1 vx p1 => TEo.on R1 p1 fun y g2 w H2 Z2 s2 R2 vy p2 => by
    obtain ⟨d, e, b, e1, e2, e3, p3⟩ := tst_app2 p2
    refine so H2 Z2 v w d e _ _ R2.sub ((vx.mono s2).rr R2 e1) (vy.rr R2 e2) e3 fun u ru => ?_
    cases ru
    refine ⟨b, rfl, ?_⟩
    cases b with
    | false => exact iteF (p3 _ H2 Z2 (s1.trans s2) R2 (.bl false))
    | true =>
      refine iteT (TEo.on R2 p3 fun z g3 u H3 Z3 s3 R3 vz p4 => ?_)
      exact app2_ok so' R3 ((vy.mono s3)) vz p4 fun o q => out_fin R3 ((s1.trans s2).trans s3) q
theorem me_ch {op op' : CmpOp} {r r' : R2} {f f' : D → D → Option Out} {da db dc : SM EV} (ho : OpR X (compareOp op) r) (ho' : OpR X (compareOp op') r') (so : Sound2 P.K r f) (so' : Sound2 P.K r' f') (ha : PE X a (TEo P W da)) (hb : PE X b (TEo P W db)) (hc : PE X c (TEo P W dc))
    (hm : lastMarks [op, op'] [b, c] = false := by with_unfolding_all rfl) : PE X (.Compare a [op, op'] [b, c] pos) (TEo P W (chE f f' da db dc)) := peW (pe_chain ho ho' ha hb hc hm) (ch_on so so')
theorem mt_ch {op op' : CmpOp} {r r' : R2} {f f' : D → D → Option Out} {da db dc : SM EV} (ho : OpR X (compareOp op) r) (ho' : OpR X (compareOp op') r') (so : Sound2 P.K r f) (so' : Sound2 P.K r' f') (ha : PE X a (TEo P W da)) (hb : PE X b (TEo P W db)) (hc : PE X c (TEo P W dc))
    (hm : lastMarks [op, op'] [b, c] = false := by with_unfolding_all rfl) : PT X (.Compare a [op, op'] [b, c] pos) (TTo P W (tstE (chE f f' da db dc))) :=
  ptW (pt_chain ho ho' ha hb hc hm) fun σ H Q ⟨c, g, Z, R, p⟩ => ch_on so so' σ H _ (by
    refine ⟨c, g, Z, R, post_mono (post_bnd.mp p) (fun ev g1 q v H1 Z1 s1 R1 vr => ?_) fun _ _ _ _ q => q⟩
    cases ev with
    | fro d =>
      cases d with
      | bool k => cases vr; exact ⟨k, rfl, q H1 Z1 s1 R1⟩
      | none => exact q.elim
      | int _ => exact q.elim
      | str _ => exact q.elim
      | list _ => exact q.elim
      | tuple _ => exact q.elim
      | dict _ => exact q.elim
    | own ds => exact q.elim
    | var i =>
      obtain ⟨Z2, s2, R2, vp⟩ := VR.frz R1 vr
      have q : Post (fun b g' => ∀ H' Z', Same Z Z' → Rel P c g' σ H' Z' → Q b H') (exK P c σ W) (match look g1 (.var i) with
        | some (.bool b) => Res.ok (b, g1)
        | _ => .stuck) := q
      cases e1 : look g1 (.var i) with
      | none => rw [e1] at q; exact q.elim
      | some d =>
        rw [e1] at q
        have rr := vp.rr R2 e1
        cases d with
        | bool k => exact ⟨k, rr.bl, q H1 Z1 s1 R1⟩
        | none => exact q.elim
        | int _ => exact q.elim
        | str _ => exact q.elim
        | list _ => exact q.elim
        | tuple _ => exact q.elim
        | dict _ => exact q.elim)

/-! ## slices -/
def TOo (P : Pa) (W : WX) (de : SM (Option Int)) : L2.TO := fun σ H Q => ∃ c g Z, Rel P c g σ H Z ∧ Post (fun o g' => ∀ H' Z', Same Z Z' → Rel P c g' σ H' Z' → Q o H') (exK P c σ W) (de g)
theorem poW {o : Option Expr} {t t' : L2.TO} (h : PO X o t) (w : ∀ σ H Q, t' σ H Q → t σ H Q) : PO X o t' := ⟨fun pins s σ H Q I q => h.run pins s σ H Q I (w σ H Q q)⟩
def partE (da : SM EV) : SM (Option Int) := onE da fun x => fun g => match look g x with
  | some (.int i) => .ok (some i, g)
  | _ => .stuck
theorem mo_none : PO X none (TOo P W (ret none)) := poW po_none fun σ H Q ⟨c, g, Z, R, p⟩ => p H Z (Same.refl _) R
theorem mo_some {da : SM EV} (h : PE X e (TEo P W da)) : PO X (some e) (TOo P W (partE da)) := poW (po_some h) fun σ H Q ⟨c, g, Z, R, p⟩ =>
  TEo.on R p fun x g1 v H1 Z1 s1 R1 vx p1 => by
    cases e1 : look g1 x with
    | none => rw [e1] at p1; exact p1.elim
    | some d =>
      rw [e1] at p1
      have rr := vx.rr R1 e1
      cases d with
      | int i => exact ⟨i, rr.int, p1 H1 Z1 s1 R1⟩
      | none => exact p1.elim
      | bool _ => exact p1.elim
      | str _ => exact p1.elim
      | list _ => exact p1.elim
      | tuple _ => exact p1.elim
      | dict _ => exact p1.elim
def cutL {α : Type} (xs : List α) (lo hi : Option Int) : List α := (xs.drop (HT.sIx xs.length 0 lo)).take (HT.sIx xs.length xs.length hi - HT.sIx xs.length 0 lo)
def slF (lo hi : Option Int) : D → Option Out
  | .list ds => some (.lstN (cutL ds lo hi))
  | .tuple ds => some (.tupN (cutL ds lo hi))
  | .str z => gd (decide (z.length ≤ SZ)) (some (.val (.str (cutS z lo hi))))
  | _ => none
def slE (da : SM EV) (lo hi : SM (Option Int)) : SM EV := onE da fun x => bnd lo fun l => bnd hi fun h => app1 (slF l h) x
def rSlX (K : PySem.W.Frag) : V → Option Int → Option Int → Hp → VK → Prop := fun x lo hi H Q => rSlL K x lo hi H Q ∨ rSlA K x lo hi H Q ∨ rSlS x lo hi H Q
theorem sl_any : SlR X (rSlX X.K) := SlR.or sl_list (SlR.or sl_tupA sl_str)
theorem s_sl {K : PySem.W.Frag} {lo hi : Option Int} : Sound1 K (fun x H Q => rSlX K x lo hi H Q) (slF lo hi) := by
  intro H Z x d o Q s hx h q
  have cut : ∀ {vs : List V} {ds : List D}, DqAll K Z vs ds → DqAll K Z (cutV vs lo hi) (cutL ds lo hi) := fun {vs ds} r => by
    unfold cutV cutL
    rw [dpA_len r]
    exact dpA_take _ (dpA_drop _ r)
  cases d with
  | list ds =>
    cases h
    obtain ⟨a, vs, rfl, h1, r1⟩ := hx.lst s
    exact .inl ⟨a, vs, rfl, SqL.of h1, fun p hp => q p _ hp (cut r1)⟩
  | tuple ds =>
    cases h
    obtain ⟨a, vs, e, h1, r1⟩ := hx.tup s
    have hl := dpA_len r1
    refine .inr (.inl ⟨a, vs, e, h1, fun ⟨k1, k2⟩ => ?_, fun _ p hp => q.2 p _ hp (cut r1)⟩)
    have : cutL ds lo hi = ds := by
      unfold cutL
      rw [← hl, k1, k2, List.drop_zero, Nat.sub_zero, hl, List.take_length]
    rw [this] at q
    rw [← e]; exact q.1 _ hx.tupz
  | str z =>
    obtain ⟨hb, h⟩ := gd_some h; cases h
    exact .inr (.inr ⟨z, hx.str, by rw [← SZ_eq]; exact of_decide_eq_true hb, q _ (.str _)⟩)
  | none => cases h
  | bool _ => cases h
  | int _ => cases h
  | dict _ => cases h
theorem me_sl {p2 : Pos} {da : SM EV} {lo hi : Option Expr} {dl dh : SM (Option Int)} (hK : P.K = X.K) (ha : PE X a (TEo P W da)) (hl : PO X lo (TOo P W dl)) (hh : PO X hi (TOo P W dh)) : PE X (.Subscript a (.Slice lo hi none p2) pos) (TEo P W (slE da dl dh)) :=
  peW (pe_slice sl_any ha hl hh) fun σ H Q ⟨c, g, Z, R, p⟩ => TEo.on R p fun x g1 v H1 Z1 s1 R1 vx p1 => by
    refine ⟨c, g1, Z1, R1, post_mono (post_bnd.mp p1) (fun l g2 p2 H2 Z2 s2 R2 => ?_) fun _ _ _ _ q => q⟩
    refine ⟨c, g2, Z2, R2, post_mono (post_bnd.mp p2) (fun h g3 p3 H3 Z3 s3 R3 => ?_) fun _ _ _ _ q => q⟩
    rw [← hK]
    exact app1_ok (r := fun x H Q => rSlX P.K x l h H Q) s_sl R3 (vx.mono (s2.trans s3)) p3 fun o q => out_fin R3 ((s1.trans s2).trans s3) q
/-- e[::-1] of a list -/
def revF : D → Option Out
  | .list ds => some (.lstN ds.reverse)
  | _ => none
theorem me_rev {k : Nat} {p1 p2 p3 : Pos} {da : SM EV} (ha : PE X a (TEo P W da)) : PE X (.Subscript a (.Slice none none (some (.UnaryOp .USub (.Constant (.int 1) k p1) p2)) p3) pos) (TEo P W (op1 revF da)) :=
  peW (pe_revL ha) fun σ H Q ⟨c, g, Z, R, p⟩ => TEo.on R p fun x g1 v H1 Z1 s1 R1 vx p1 =>
    app1_ok (r := fun x H1 Q => ∃ a xs, x = .ref a ∧ SqL X.K H1 a xs ∧ ∀ p, H1 p = none → Q (.ref p) (upd H1 p (.lst xs.reverse))) (fun H Z x d o Q s h e q => by
      cases d with
      | list ds => cases e; obtain ⟨a, vs, rfl, h1, r1⟩ := h.lst s; exact ⟨a, vs, rfl, SqL.of h1, fun p hp => q p _ hp (dpA_rev r1)⟩
      | _ => cases e) R1 vx p1 fun o q => out_fin R1 s1 q
end

/-! ## methods that change a slot's list -/
/-- the list of a slot is rewritten -/
def slotL (i : Nat) (f : List D → Option (List D × D)) : SM EV := fun g => match g[i]? with
  | some (.own ds) => (match f ds with
    | some (ds', r) => .ok (.fro r, g.set i (.own ds'))
    | none => .stuck)
  | some (.bor ds) => (match f ds with
    | some (ds', r) => .ok (.fro r, g.set i (.bor ds'))
    | none => .stuck)
  | _ => .stuck
theorem slot_ok {P : Pa} {c : Ctx} {g : List Sl} {σ : St} {H Z : Hp} {i : Nat} {f : List D → Option (List D × D)} {v : V} {ok : EV → List Sl → Prop} {ex : Nat → Str → D → List Sl → Prop} (R : Rel P c g σ H Z) (h : σ[i]? = some (some v)) (p : Post ok ex (slotL i f g)) :
    ∃ a vs ds ds' r, v = .ref a ∧ H a = some (.lst vs) ∧ DqAll P.K Z vs ds ∧ f ds = some (ds', r) ∧ ∃ g', ok (.fro r) g' ∧ ∀ vs', DqAll P.K Z vs' ds' → Rel P c g' σ (upd H a (.lst vs')) Z := by
  unfold slotL at p
  cases es : g[i]? with
  | none => rw [es] at p; exact p.elim
  | some s =>
    rw [es] at p
    cases s with
    | un => exact p.elim
    | fro _ => exact p.elim
    | exc _ _ _ => exact p.elim
    | scr _ => exact p.elim
    | own ds =>
      obtain ⟨a, vs, e1, h1, h2, h3, r⟩ := R.sl i _ es
      rw [h] at e1; cases e1
      have p : Post ok ex (match f ds with
        | some (ds', r) => Res.ok (.fro r, g.set i (.own ds'))
        | none => .stuck) := p
      cases e : f ds with
      | none => rw [e] at p; exact p.elim
      | some x =>
        obtain ⟨ds', d⟩ := x
        rw [e] at p
        exact ⟨a, vs, ds, ds', d, rfl, h1, r, e, _, p, fun vs' r' => R.mutO es h r'⟩
    | bor ds =>
      obtain ⟨a, vs, e1, h1, h2, h3, r⟩ := R.sl i _ es
      rw [h] at e1; cases e1
      have p : Post ok ex (match f ds with
        | some (ds', r) => Res.ok (.fro r, g.set i (.bor ds'))
        | none => .stuck) := p
      cases e : f ds with
      | none => rw [e] at p; exact p.elim
      | some x =>
        obtain ⟨ds', d⟩ := x
        rw [e] at p
        exact ⟨a, vs, ds, ds', d, rfl, h1, r, e, _, p, fun vs' r' => R.mutB es h r'⟩
def popF (ds : List D) : Option (List D × D) := ds.getLast?.map fun d => (ds.dropLast, d)
def appF (d : D) (ds : List D) : Option (List D × D) := if ds.length < SZ then some (ds ++ [d], .none) else none
def setF (k : Int) (d : D) (ds : List D) : Option (List D × D) := (ixN ds.length k).map fun j => (ds.set j d, .none)
def popAtF (k : Int) (ds : List D) : Option (List D × D) := if -(2 ^ 63) ≤ k ∧ k < 2 ^ 63 then (seqIndex? k ds.length).bind fun j => ds[j]?.map fun d => (ds.eraseIdx j, d) else none
/-- the slot holds a list of its own, or the borrowed one -/
def muG (i : Nat) : SM Unit := fun g => match g[i]? with
  | some (.own _) => .ok ((), g)
  | some (.bor _) => .ok ((), g)
  | _ => .stuck
theorem muG_ok {P : Pa} {c : Ctx} {g : List Sl} {σ : St} {H Z : Hp} {i : Nat} {ok : Unit → List Sl → Prop} {ex : Nat → Str → D → List Sl → Prop} (R : Rel P c g σ H Z) (p : Post ok ex (muG i g)) : ∃ a vs, σ[i]? = some (some (.ref a)) ∧ H a = some (.lst vs) ∧ ok () g := by
  unfold muG at p
  cases es : g[i]? with
  | none => rw [es] at p; exact p.elim
  | some s =>
    rw [es] at p
    cases s with
    | own ds => obtain ⟨a, vs, e1, h1, _⟩ := R.sl i _ es; exact ⟨a, vs, e1, h1, p⟩
    | bor ds => obtain ⟨a, vs, e1, h1, _⟩ := R.sl i _ es; exact ⟨a, vs, e1, h1, p⟩
    | un => exact p.elim
    | fro _ => exact p.elim
    | exc _ _ _ => exact p.elim
    | scr _ => exact p.elim
/-- x.pop() of a name -/
def popE (i : Nat) : SM EV := bnd (muG i) fun _ => slotL i popF
/-- x.append(e) of a name -/
def apE (i : Nat) (da : SM EV) : SM EV := bnd (muG i) fun _ => onE da fun ev => bnd (esc ev) fun d => slotL i (appF d)
theorem dpA_dropLast {K : PySem.W.Frag} {H : Hp} : ∀ {ds : List D} {vs : List V}, DqAll K H vs ds → DqAll K H vs.dropLast ds.dropLast := fun {ds vs} h => by
  rw [List.dropLast_eq_take, List.dropLast_eq_take, dpA_len h]
  exact dpA_take _ h
section
variable {X : Cx} {P : Pa} {W : WX} {e a b : Expr} {pos pos' apos : Pos} {x : Str} {i : Nat}
theorem me_pop (hv : PE X a (tVar i)) (hbase : attributeBase a "pop" X.env (eval a X.env) = eval a X.env := by rfl) (hline : (apos.endLine == pos.line) = true := by rfl) : PE X (.Call (.Attribute a "pop" apos) [] [] pos) (TEo P W (popE i)) :=
  peW (pe_bm0 PySem.F.plainAttrs_list PySem.F.slot_list_pop PySem.F.type_list_pop mt_pop hv hbase hline) fun σ H Q ⟨c, g, Z, R, p⟩ => by
    obtain ⟨a0, vs0, hv, h0, p⟩ := muG_ok R (post_bnd.mp p)
    obtain ⟨a, vs, ds, ds', r, ea, h1, rr, e, g', q, Rn⟩ := slot_ok R hv p
    cases ea
    unfold popF at e
    cases el : ds.getLast? with
    | none => rw [el] at e; cases e
    | some d =>
      rw [el] at e; cases e
      have hl := dpA_len rr
      rw [List.getLast?_eq_getElem?, ← hl] at el
      obtain ⟨w, e2, r2⟩ := dpA_get rr el
      exact ⟨_, hv, .inl ⟨rfl, _, SqL.of h1⟩, _, vs, w, rfl, rfl, h1, e2, q w _ Z (Same.refl _) (Rn _ (dpA_dropLast rr)) r2⟩
theorem me_app {da : SM EV} (hv : PE X a (tVar i)) (he : PE X e (TEo P W da)) (hbase : attributeBase a "append" X.env (eval a X.env) = eval a X.env := by rfl)
    (hfew : ((backTo pos (starEach [e] X.env)).all (fun x => !x.1) && (backToKw pos (keywordEach [] X.env)).all (fun x => x.1.isSome)
      && decide (([e] : List Expr).length + ([] : List Keyword).length + (if ([] : List Keyword).isEmpty then 0 else 1) < 30)) = true := by rfl) (hline : (apos.endLine == pos.line) = true := by rfl)
    (hs : starEach [e] X.env = (false, eval e X.env) :: starEach [] X.env := by rfl) (hplain : (backTo pos (starEach [] X.env)).any (·.1) = false := by rfl) :
    PE X (.Call (.Attribute a "append" apos) [e] [] pos) (TEo P W (apE i da)) :=
  peW (pe_bm PySem.F.plainAttrs_list PySem.F.slot_list_append PySem.F.type_list_append mt_append hv (pa_cons he pa_nil hs) hbase hfew hline hs hplain) fun σ H Q ⟨c, g, Z, R, p⟩ => by
    obtain ⟨a0, vs0, hv, h0, p⟩ := muG_ok R (post_bnd.mp p)
    refine ⟨_, hv, .inl ⟨rfl, _, SqL.of h0⟩, ?_⟩
    refine TEo.on R p fun ev g1 v H1 Z1 s1 R1 vp p1 => ?_
    obtain ⟨d, g2, Z2, s2, R2, r2, p2⟩ := esc_ok R1 vp (post_bnd.mp p1)
    obtain ⟨a, vs, ds, ds', r, ea, h1, rr, e, g', q, Rn⟩ := slot_ok R2 hv p2
    cases ea
    unfold appF at e
    by_cases hl : ds.length < SZ
    · rw [if_pos hl] at e; cases e
      exact ⟨_, vs, v, rfl, rfl, h1, by rw [dpA_len rr, ← SZ_eq]; exact hl, q .non _ Z2 (s1.trans s2) (Rn _ (dpA_app rr (.cons r2 .nil))) .non⟩
    · rw [if_neg hl] at e; cases e
/-- x[k] = e, x a name -/
def setK (i : Nat) (d : D) (y : EV) : SM Fl := fun g => match look g y with
  | some (.int k) => bnd (slotL i (setF k d)) (fun _ => ret .nx) g
  | _ => .stuck
def ixS (i : Nat) (dk da : SM EV) : SM Fl := onE da fun ev => bnd (esc ev) fun d => bnd (muG i) fun _ => onE dk (setK i d)
theorem ms_ix {dk da : SM EV} {kx : Expr} {tpos : Pos} (h : PS X (.Assign [.Subscript a kx tpos] e pos) (tAsg (TEo P W da) (gSub (tVar i) (TEo P W dk) rSetL))) :
    PS X (.Assign [.Subscript a kx tpos] e pos) (TSo P W (ixS i dk da)) := psW h fun Dd σ H ⟨c, g, Z, R, p⟩ => by
  refine TEo.onS (k := fun ev => bnd (esc (frz ev)) fun d => bnd (muG i) fun _ => onE dk (setK i d)) R p fun ev g1 v H1 Z1 s1 R1 vr1 p1 => ?_
  obtain ⟨Z1', s1', R1', vp⟩ := vr1.frz R1
  obtain ⟨d, g2, Z2, s2, R2, r2, p2⟩ := esc_ok R1' vp (post_bnd.mp p1)
  obtain ⟨a0, vs0, hv, h0, p3⟩ := muG_ok R2 (post_bnd.mp p2)
  refine ⟨_, hv, ?_⟩
  refine TEo.onS (k := fun ev => setK i d (frz ev)) R2 p3 fun ev4 g4 v4 H4 Z4 s4 R4 vr4 p4 => ?_
  obtain ⟨Z5, s5, R5, vp5⟩ := vr4.frz R4
  unfold setK at p4
  cases e1 : look g4 (frz ev4) with
  | none => rw [e1] at p4; exact p4.elim
  | some dk' =>
    rw [e1] at p4
    have rr := vp5.rr R5 e1
    cases dk' with
    | int k =>
      obtain ⟨a1, vs, ds, ds', r, ea, h1, rl, ef, g', q, Rn⟩ := slot_ok R5 hv (post_bnd.mp p4)
      cases ea
      unfold setF at ef
      cases ej : ixN ds.length k with
      | none => rw [ej] at ef; cases ef
      | some j =>
        rw [ej] at ef; cases ef
        exact ⟨_, vs, k, j, rfl, rr.int, h1, by rw [dpA_len rl]; exact ej, q σ _ Z5 (((s1.trans s1').trans s2).trans (s4.trans s5)) (Rn _ (dpA_set (dpM (s4.trans s5) r2) j rl))⟩
    | none => exact p4.elim
    | bool _ => exact p4.elim
    | str _ => exact p4.elim
    | list _ => exact p4.elim
    | tuple _ => exact p4.elim
    | dict _ => exact p4.elim
/-! ## x op= e of ints; several names at once -/
def augS (i : Nat) (f : D → D → Option Out) (da : SM EV) : SM Fl := bnd (vr i) fun x => match x with
  | .fro d => onE da fun y => bnd (app2 f (.fro d) y) fun ev => bnd (mvE ev) fun s => setS i s
  | _ => fun _ => .stuck
theorem ms_aug {op : Operator} {f : D → D → Option Out} {ti : TIp} {da : SM EV} {tpos : Pos} (so : Sound2 P.K ti f) (h : PS X (.AugAssign (.Name x tpos) op e pos) (tAug i (TEo P W da) ti)) : PS X (.AugAssign (.Name x tpos) op e pos) (TSo P W (augS i f da)) :=
  psW h fun Dd σ H ⟨c, g, Z, R, p⟩ => by
    have p1 := post_bnd.mp p
    unfold vr at p1
    cases es : g[i]? with
    | none => rw [es] at p1; exact p1.elim
    | some s =>
      rw [es] at p1
      cases s with
      | own _ => exact p1.elim
      | bor _ => exact p1.elim
      | un => exact p1.elim
      | exc _ _ _ => exact p1.elim
      | scr _ => exact p1.elim
      | fro d =>
        obtain ⟨v, e1, r⟩ := R.sl i _ es
        refine ⟨v, e1, ?_⟩
        refine TEo.onS (k := fun ev => bnd (app2 f (.fro d) (frz ev)) fun ev => bnd (mvE ev) fun s => setS i s) R p1 fun ev g1 w H1 Z1 s1 R1 vr1 p2 => ?_
        obtain ⟨Z2, s2, R2, vp⟩ := vr1.frz R1
        have vx : VP P σ Z2 v (.fro d) := dpM (s1.trans s2) r
        exact app2_ok so R2 vx vp (post_bnd.mp p2) fun o q => out_fin R2 (s1.trans s2) fun u H3 Z3 s3 R3 vr3 => asg_ok R3 s3 vr3 q
/-! ### several names at once: the values first, then the names from the left; a fresh list stays the name's own -/
def isOE : EV → Bool
  | .own _ => true
  | _ => false
inductive VRL (P : Pa) (c : Ctx) (g : List Sl) (σ : St) (H Z : Hp) : List V → List EV → Prop
  | nil : VRL P c g σ H Z [] []
  | cons {v : V} {vs : List V} {e : EV} {es : List EV} (h : VR P c g σ H Z v e) (hd : isOE e = true → ∀ (j : Nat) (w : V) (f : EV), vs[j]? = some w → es[j]? = some f → isOE f = true → w ≠ v) (r : VRL P c g σ H Z vs es) : VRL P c g σ H Z (v :: vs) (e :: es)
def TAw (P : Pa) (W : WX) (de : SM (List EV)) : TA := fun σ H Q => ∃ c g Z, Rel P c g σ H Z ∧
  Post (fun evs g' => ∀ vs H' Z', Same Z Z' → Rel P c g' σ H' Z' → VRL P c g' σ H' Z' vs evs → Q vs H') (exK P c σ W) (de g)
def argsW (da : SM EV) (dr : SM (List EV)) : SM (List EV) := bnd da fun x => bnd dr fun xs => ret (x :: xs)
theorem maw_nil : PA X [] (TAw P W argsNil) := paW pa_nil fun σ H Q ⟨c, g, Z, R, p⟩ => p [] H Z (Same.refl _) R .nil
theorem vr_keep {c : Ctx} {g g' : List Sl} {σ : St} {H H' Z Z' : Hp} {v : V} {e : EV} (s : Same Z Z') (he : isOE e = false) (h : VR P c g σ H Z v e) : VR P c g' σ H' Z' v e := by
  cases e with
  | fro d => exact dpM s h
  | own ds => cases he
  | var i => exact h
theorem vrl_unhold {c : Ctx} {g : List Sl} {σ : St} {H Z : Hp} {a : Addr} {x : HO} (h0 : c.H0 a = none) : ∀ {vs : List V} {es : List EV}, VRL P (c.hold a x) g σ H Z vs es → VRL P c g σ H Z vs es ∧ ∀ (j : Nat) (w : V) (f : EV), vs[j]? = some w → es[j]? = some f → isOE f = true → w ≠ .ref a
  | _, _, .nil => ⟨.nil, fun j w f e => by simp at e⟩
  | _, _, .cons (v := v) (vs := vs) (e := e) (es := es) h hd r => by
    obtain ⟨r', n'⟩ := vrl_unhold h0 r
    have key : VR P c g σ H Z v e ∧ (isOE e = true → v ≠ .ref a) := by
      cases e with
      | fro d => exact ⟨h, fun z => nomatch z⟩
      | var i => exact ⟨h, fun z => nomatch z⟩
      | own ds =>
        obtain ⟨b, ws, rfl, h1, h2, h3, r3, hn⟩ := h
        have ne : b ≠ a := fun z => by
          rw [z] at h3
          have : (c.hold a x).H0 a = some x := if_pos rfl
          rw [this] at h3; cases h3
        rw [hold_ne ne] at h3
        exact ⟨⟨b, ws, rfl, h1, h2, h3, r3, hn⟩, fun _ z => ne (V.ref.inj z)⟩
    refine ⟨.cons key.1 hd r', fun j w f e1 e2 hf => ?_⟩
    cases j with
    | zero => cases e1; cases e2; exact key.2 hf
    | succ j => exact n' j w f (by simpa using e1) (by simpa using e2) hf
theorem maw_cons {es : List Expr} {da : SM EV} {dr : SM (List EV)} (ha : PE X e (TEo P W da)) (hr : PA X es (TAw P W dr)) (hs : starEach (e :: es) X.env = (false, eval e X.env) :: starEach es X.env := by rfl) : PA X (e :: es) (TAw P W (argsW da dr)) :=
  paW (pa_cons ha hr hs) fun σ H Q ⟨c, g, Z, R, p⟩ => by
    refine ⟨c, g, Z, R, post_mono (post_bnd.mp p) (fun ev g1 p1 v H1 Z1 s1 R1 vr1 => ?_) fun _ _ _ _ q => q⟩
    by_cases ho : isOE ev = true
    · cases ev with
      | fro d => cases ho
      | var i => cases ho
      | own ds =>
        obtain ⟨a, us, rfl, h1, h2, h3, r3, hn⟩ := vr1
        have hB := R1.noB h3
        refine ⟨c.hold a (.lst us), g1, Z1, R1.hold h1 h2 h3 hn, post_mono (post_bnd.mp p1) (fun evs g2 p2 ws H2 Z2 s2 R2 vrl => ?_) fun k f q g' ex dd u H' Z' ez rz R' => ex dd u H' Z' ez rz (R'.unhold h3 hB).1⟩
        obtain ⟨R3, k1, k2, k3⟩ := R2.unhold h3 hB
        obtain ⟨vrl', n'⟩ := vrl_unhold h3 vrl
        exact p2 _ H2 Z2 (s1.trans s2) R3 (.cons ⟨a, us, rfl, k1, k2, h3, dpAM s2 r3, k3⟩ (fun _ j w f e1 e2 hf => n' j w f e1 e2 hf) vrl')
    · have ho : isOE ev = false := by simpa using ho
      refine ⟨c, g1, Z1, R1, post_mono (post_bnd.mp p1) (fun evs g2 p2 ws H2 Z2 s2 R2 vrl => ?_) fun _ _ _ _ q => q⟩
      exact p2 _ H2 Z2 (s1.trans s2) R2 (.cons (vr_keep s2 ho vr1) (fun z => by rw [ho] at z; cases z) vrl)
def mvP : EV → SM Sl
  | .fro d => ret (.fro d)
  | .own ds => ret (.own ds)
  | .var j => fun g => match g[j]? with
    | some (.fro d) => .ok (.fro d, g)
    | _ => .stuck
def setsS : List Nat → List EV → SM Fl
  | [], [] => ret .nx
  | i :: is, e :: es => bnd (mvP e) fun s => bnd (setS i s) fun _ => setsS is es
  | _, _ => fun _ => .stuck
def varsIn : List EV → List Nat
  | [] => []
  | .var j :: es => j :: varsIn es
  | _ :: es => varsIn es
def parS (is : List Nat) (da : SM (List EV)) : SM Fl := bnd da fun evs => if is.all (fun i => !(varsIn evs).contains i) then setsS is evs else fun _ => .stuck
theorem varsIn_mem {j : Nat} : ∀ {es : List EV}, EV.var j ∈ es → j ∈ varsIn es
  | [], h => by cases h
  | e :: es, h => by
    rcases List.mem_cons.mp h with h | h
    · cases h; exact List.mem_cons_self
    · have := varsIn_mem h
      cases e with
      | var k => exact List.mem_cons_of_mem _ this
      | fro d => exact this
      | own d => exact this
theorem setS_post2 {c : Ctx} {i : Nat} {s : Sl} {g : List Sl} {σ : St} {H Z : Hp} {v : V} {ok : Fl → List Sl → Prop} {ex : Nat → Str → D → List Sl → Prop} (R : Rel P c g σ H Z) (ok' : SlOk P c H Z (some (some v)) s)
    (hd : isO (some s) = true → ∀ a, v = .ref a → ∀ j : Nat, isO g[j]? = true → σ[j]? ≠ some (some (.ref a))) (hb : ∀ ds, s ≠ .bor ds)
    (p : Post ok ex (setS i s g)) : ∃ g', Rel P c g' (σ.set i (some v)) H Z ∧ g' = g.set i s ∧ ok .nx g' := by
  unfold setS at p
  cases es : g[i]? with
  | none => rw [es] at p; exact p.elim
  | some t =>
    rw [es] at p
    have hi : i < σ.length := by rw [← R.len]; exact (List.getElem?_eq_some_iff.mp es).1
    have R' : Rel P c (g.set i s) (σ.set i (some v)) H Z := R.put hi ok' (fun h a e j _ hj => hd h a (Option.some.inj e) j hj) hb
    cases t with
    | bor ds => exact p.elim
    | un => exact ⟨_, R', rfl, p⟩
    | fro _ => exact ⟨_, R', rfl, p⟩
    | own _ => exact ⟨_, R', rfl, p⟩
    | exc _ _ _ => exact ⟨_, R', rfl, p⟩
    | scr _ => exact ⟨_, R', rfl, p⟩
/-- the rest of the values behind a store -/
theorem vrl_store {c : Ctx} {g : List Sl} {σ : St} {H Z : Hp} {i : Nat} {s : Sl} {v : V} {e : EV} (hs : isO (some s) = true → isOE e = true) :
    ∀ {us : List V} {fs : List EV}, VRL P c g σ H Z us fs → (∀ j, EV.var j ∈ fs → i ≠ j) → (isOE e = true → ∀ (k : Nat) (w : V) (f : EV), us[k]? = some w → fs[k]? = some f → isOE f = true → w ≠ v) → VRL P c (g.set i s) (σ.set i (some v)) H Z us fs
  | _, _, .nil, _, _ => .nil
  | _, _, .cons (v := w) (vs := ws) (e := f) (es := fs) hw hd' r, hj, hv => by
    refine .cons ?_ hd' (vrl_store hs r (fun j hm => hj j (List.mem_cons_of_mem _ hm)) fun ho k w' f' e1 e2 => hv ho (k + 1) w' f' (by simpa using e1) (by simpa using e2))
    cases f with
    | fro d' => exact hw
    | var j =>
      have ne := hj j List.mem_cons_self
      show (σ.set i (some v))[j]? = some (some w)
      rw [List.getElem?_set_ne ne]
      exact hw
    | own ds' =>
      obtain ⟨b, xs, rfl, q1, q2, q3, q4, q5⟩ := hw
      refine ⟨b, xs, rfl, q1, q2, q3, q4, fun k hk ek => ?_⟩
      cases e5 : (g.set i s)[k]? with
      | none => rw [e5] at hk; cases hk
      | some t =>
        rcases getE_set e5 with ⟨rfl, rfl⟩ | ⟨hne, e6⟩
        · rw [e5] at hk
          have il : k < σ.length := by
            have := (List.getElem?_eq_some_iff.mp ek).1
            simpa using this
          rw [List.getElem?_set_self il] at ek
          exact hv (hs hk) 0 _ _ rfl rfl rfl (Option.some.inj (Option.some.inj ek)).symm
        · rw [e5] at hk
          rw [List.getElem?_set_ne (Ne.symm hne)] at ek
          exact q5 k (by rw [e6]; exact hk) ek
theorem sets_ok {c : Ctx} {Dd : Ends} {Z0 : Hp} {ex : Nat → Str → D → List Sl → Prop} : ∀ {is : List Nat} {evs : List EV} {vs : List V} {g : List Sl} {σ : St} {H Z : Hp}, Rel P c g σ H Z → Same Z0 Z → VRL P c g σ H Z vs evs → (∀ i ∈ is, ∀ j, EV.var j ∈ evs → i ≠ j) →
    Post (fun fl g' => FlP P c Dd Z0 g' fl) ex (setsS is evs g) → vs.length = is.length ∧ Dd.nx (sets is vs σ) H
  | [], [], _, g, σ, H, Z, R, s0, h, hn, p => by cases h; exact ⟨rfl, p σ H Z s0 R⟩
  | [], _ :: _, _, g, σ, H, Z, R, s0, h, hn, p => p.elim
  | _ :: _, [], _, g, σ, H, Z, R, s0, h, hn, p => p.elim
  | i :: is, e :: es, _, g, σ, H, Z, R, s0, h, hn, p => by
    cases h with
    | @cons v vs _ _ h1 hd h2 =>
      have p1 := post_bnd.mp p
      -- the slot's new word
      have key : ∃ s : Sl, SlOk P c H Z (some (some v)) s ∧ (isO (some s) = true → isOE e = true ∧ ∀ a, v = .ref a → NoOwn g σ a) ∧ (∀ ds, s ≠ .bor ds) ∧ Post (fun fl g' => FlP P c Dd Z0 g' fl) ex (bnd (setS i s) (fun _ => setsS is es) g) := by
        cases e with
        | own ds =>
          obtain ⟨a, us, rfl, k1, k2, k3, k4, k5⟩ := h1
          exact ⟨.own ds, ⟨a, us, rfl, k1, k2, k3, k4⟩, fun _ => ⟨rfl, fun b eb => by cases eb; exact k5⟩, (fun _ z => nomatch z), p1⟩
        | fro d => exact ⟨.fro d, ⟨v, rfl, h1⟩, (fun z => nomatch z), (fun _ z => nomatch z), p1⟩
        | var j =>
          have h1 : σ[j]? = some (some v) := h1
          have p1 : Post (fun a g' => Post (fun fl g' => FlP P c Dd Z0 g' fl) ex (bnd (setS i a) (fun _ => setsS is es) g')) ex (match g[j]? with
            | some (.fro d) => Res.ok (Sl.fro d, g)
            | _ => .stuck) := p1
          cases es1 : g[j]? with
          | none => rw [es1] at p1; exact p1.elim
          | some t =>
            rw [es1] at p1
            cases t with
            | fro d =>
              obtain ⟨w, e1, r⟩ := R.sl j _ es1
              rw [h1] at e1; cases e1
              exact ⟨.fro d, ⟨v, rfl, r⟩, (fun z => nomatch z), (fun _ z => nomatch z), p1⟩
            | un => exact p1.elim
            | own _ => exact p1.elim
            | bor _ => exact p1.elim
            | exc _ _ _ => exact p1.elim
            | scr _ => exact p1.elim
      obtain ⟨s, k1, k2, k3, p2⟩ := key
      obtain ⟨g2, R2, p3⟩ := setS_post2 (v := v) R k1 (fun ho a ea j hj => (k2 ho).2 a ea j hj) k3 (post_bnd.mp p2)
      obtain ⟨hg, p3⟩ := p3
      subst hg
      obtain ⟨hl, q⟩ := sets_ok R2 s0 (vrl_store (e := e) (fun ho => (k2 ho).1) h2 (fun j hm => hn i List.mem_cons_self j (List.mem_cons_of_mem _ hm)) hd) (fun k hk j hm => hn k (List.mem_cons_of_mem _ hk) j (List.mem_cons_of_mem _ hm)) p3
      exact ⟨by rw [List.length_cons, List.length_cons, hl], q⟩
theorem par_on {is : List Nat} {da : SM (List EV)} : ∀ Dd σ H, TSo P W (parS is da) Dd σ H → TAw P W da σ H fun vs H1 => vs.length = is.length ∧ Dd.nx (sets is vs σ) H1 := fun Dd σ H ⟨c, g, Z, R, p⟩ => by
  refine ⟨c, g, Z, R, post_mono (post_bnd.mp p) (fun evs g1 p1 vs H1 Z1 s1 R1 vrl => ?_) fun _ _ _ _ q => exS_K q⟩
  by_cases hb : (is.all fun i => !(varsIn evs).contains i) = true
  · rw [if_pos hb] at p1
    refine sets_ok R1 s1 vrl (fun i hi j hj e => ?_) p1
    have := List.all_eq_true.mp hb i hi
    subst e
    have hm := varsIn_mem hj
    simp at this
    exact this hm
  · rw [if_neg hb] at p1; exact p1.elim
theorem ms_par2 {i j : Nat} {da : SM (List EV)} {st : Stmt} (h : PS X st (tPar i j (TAw P W da))) : PS X st (TSo P W (parS [i, j] da)) := psW h fun Dd σ H q => by
  obtain ⟨c, g, Z, R, p⟩ := par_on Dd σ H q
  exact ⟨c, g, Z, R, post_mono p (fun evs g1 p1 vs H1 Z1 s1 R1 vrl => by
    obtain ⟨hl, q⟩ := p1 vs H1 Z1 s1 R1 vrl
    match vs, hl, q with
    | [v, w], _, q => exact ⟨v, w, rfl, q⟩) fun _ _ _ _ q => q⟩
theorem ms_par3 {i j k : Nat} {da : SM (List EV)} {st : Stmt} (h : PS X st (tPar3 i j k (TAw P W da))) : PS X st (TSo P W (parS [i, j, k] da)) := psW h fun Dd σ H q => by
  obtain ⟨c, g, Z, R, p⟩ := par_on Dd σ H q
  exact ⟨c, g, Z, R, post_mono p (fun evs g1 p1 vs H1 Z1 s1 R1 vrl => by
    obtain ⟨hl, q⟩ := p1 vs H1 Z1 s1 R1 vrl
    match vs, hl, q with
    | [u, v, w], _, q => exact ⟨u, v, w, rfl, q⟩) fun _ _ _ _ q => q⟩
theorem vrl_new {c : Ctx} {g : List Sl} {σ : St} {H Z : Hp} {p : Addr} {o : HO} (hp : H p = none) : ∀ {vs : List V} {es : List EV}, VRL P c g σ H Z vs es → VRL P c g σ (upd H p o) Z vs es
  | _, _, .nil => .nil
  | _, _, .cons (e := e) h hd r => by
    refine .cons ?_ hd (vrl_new hp r)
    cases e with
    | fro d => exact h
    | var i => exact h
    | own ds =>
      obtain ⟨a, us, rfl, k1, k2, k3, k4, k5⟩ := h
      exact ⟨a, us, rfl, by rw [upd_ne (ne_of_none k1 hp)]; exact k1, k2, k3, k4, k5⟩
/-- .. by a tuple that is taken apart at once -/
theorem ms_parN {is : List Nat} {n : Nat} {da : SM (List EV)} {st : Stmt} (hn : is.length = n) (hz : is.length ≤ SZ) (h : PS X st (tAsg (tTup (TAw P W da)) (gTup P.K n (gNames is)))) : PS X st (TSo P W (parS is da)) := psW h fun Dd σ H ⟨c, g, Z, R, p⟩ => by
  refine ⟨c, g, Z, R, post_mono (post_bnd.mp p) (fun evs g1 p1 vs H1 Z1 s1 R1 vrl => ?_) fun _ _ _ _ q => exS_K q⟩
  by_cases hb : (is.all fun i => !(varsIn evs).contains i) = true
  · rw [if_pos hb] at p1
    have dj : ∀ i ∈ is, ∀ j, EV.var j ∈ evs → i ≠ j := fun i hi j hj e => by
      have := List.all_eq_true.mp hb i hi
      subst e
      have hm := varsIn_mem hj
      simp at this
      exact this hm
    have hl := (sets_ok R1 s1 vrl dj p1).1
    refine ⟨by rw [hl, ← SZ_eq]; exact hz, fun q hq => ?_⟩
    obtain ⟨_, fin⟩ := sets_ok (R1.newH (o := .tup vs) hq) s1 (vrl_new hq vrl) dj p1
    exact ⟨q, vs, rfl, SqT.of upd_same, hl.trans hn, gNames_ok hl fin⟩
  · rw [if_neg hb] at p1; exact p1.elim
end
end Mw
namespace Mw
open PySem L2

/-! ## a def of so many arguments -/
def fdN (n m : Nat) (body : SM Fl) : Fd := fun as => if as.length = n then fdD m body as else .stuck
theorem fdN_len {n m : Nat} {body : SM Fl} : ∀ as : List Sl, as.length ≠ n → fdN n m body as = .stuck := fun as h => if_neg h
theorem spD_N {K : PySem.W.Frag} {cA : Nat → Addr} {n m : Nat} {body : SM Fl} {vs : List V} {H : Hp} {Q : VK} {E : XK} (h : SpD K cA n (fdN n m body) vs H Q E) : SpD K cA n (fdD m body) vs H Q E := by
  obtain ⟨as, Z, B, h1, h2, h3, h4⟩ := spD_frp h
  refine frp_spD h1 h2 h3 ?_
  unfold fdN at h4
  rw [if_pos h1] at h4
  exact h4
theorem fn_okN {P : Program} {w : World} {K : PySem.W.Frag} {mg : Str → Option Value} {base : Heap} {cA : Nat → Addr} {x qual : Str} {st : Stmt} {f : Addr} {fd : FuncData} {N ps : List Str} {k : Nat} {body : SM Fl} (n m : Nat) (F : L2.Fun K x qual st f fd) (S : FnScope N ps (defScope st)) (hp : ps.length = n) (hN : N.length = n + m)
    (hb : ∀ (cdv : Value) (A : Around) (outer : List Env) (s : Shared) (H : Hp) (E : XK) (X : Cx), X = cxOf (L2.CX P w) P w K mg base N qual (defScope st) f cdv A outer s H E → Room k X.A →
      Takes X (fun cls d _ H => E cls d H) → PassesOwn (model X.prog X.w) X.A X.env X.xe → PSs (cxOf (L2.CX P w) P w K mg base N qual (defScope st) f cdv A outer s H E) (defBody st) (TSo ⟨K, cA, none⟩ (fun cls d _ H => E cls d H) body)) :
    FnOk P w K mg base (L2.CX P w) (k + 1) f fd ps (SpD K cA n (fdN n m body)) := by
  have := fn_ok (cA := cA) F S (by omega) hb
  rw [hp, show N.length - n = m by omega] at this
  exact this.imp fun vs H Q E h => spD_N h
theorem fn_none {P : Program} {w : World} {K : PySem.W.Frag} {mg : Str → Option Value} {base : Heap} {cA : Nat → Addr} {f : Addr} {fd : FuncData} {ps : List Str} {k : Nat} (n : Nat) : FnOk P w K mg base (L2.CX P w) k f fd ps (SpD K cA n fun _ => .stuck) where
  len := fun vs H Q E h => by obtain ⟨as, Z, B, h1, h2, h3, h4⟩ := h; exact h4.elim
  run := fun A outer s H args us vs Q E _ _ _ _ h => by obtain ⟨as, Z, B, h1, h2, h3, h4⟩ := h; exact h4.elim

/-! ## try -/
def cV (cA : Nat → Addr) : Nat → Value
  | 0 => .type "ValueError"
  | j => .ref (cA j)
def cleanS : Sl → Sl
  | .exc _ _ _ => .un
  | s => s
def cleanG (g : List Sl) : List Sl := g.map cleanS
def okFl : Fl → Bool
  | .rt (.var _) => false
  | _ => true
def offS (s : SM Fl) (cl : List Sl → List Sl) (g : List Sl) : Res (Fl × List Sl) := match s g with
  | .ok (fl, g') => if okFl fl then .ok (fl, cl g') else .stuck
  | _ => .stuck
abbrev Hdl := Nat × Option Nat × SM Fl
def excP (i : Nat) (k : Nat) (f : Str) (p : D) (s : SM Fl) : SM Fl := fun g => match g[i]? with
  | some (.bor _) => .stuck
  | some _ => offS s (fun g' => cleanG (g'.set i .un)) (g.set i (.exc k f p))
  | none => .stuck
def hand (sb : Nat → Nat → Bool) : List Hdl → Nat → Str → D → SM Fl
  | [], k, f, p => fun g => .exn k f p g
  | (c, none, s) :: r, k, f, p => if sb k c then offS s cleanG else hand sb r k f p
  | (c, some i, s) :: r, k, f, p => if sb k c then excP i k f p s else hand sb r k f p
def tryS (sb : Nat → Nat → Bool) (n : Nat) (b : SM Fl) (hs : List Hdl) : SM Fl := fun g => match b g with
  | .exn k f p g' => if 0 < k ∧ k < n then hand sb hs k f p g' else .stuck
  | .ok x => .ok x
  | .stuck => .stuck
theorem rel_in {P P' : Pa} {c : Ctx} {g : List Sl} {σ : St} {H Z : Hp} (hK : P'.K = P.K) (hx : P.xo = none) (R : Rel P c g σ H Z) : Rel P' c g σ H Z := by
  refine ⟨R.sub, R.zf, R.fr, R.bo, R.len, fun i s e => ?_, R.ds, R.b0⟩
  have q := R.sl i s e
  cases s with
  | un => trivial
  | fro d => obtain ⟨v, e1, r⟩ := q; exact ⟨v, e1, by rw [hK]; exact r⟩
  | own ds => obtain ⟨a, vs, e1, h1, h2, h3, r⟩ := q; exact ⟨a, vs, e1, h1, h2, h3, by rw [hK]; exact r⟩
  | bor ds => obtain ⟨a, vs, e1, h1, h2, h3, r⟩ := q; exact ⟨a, vs, e1, h1, h2, h3, by rw [hK]; exact r⟩
  | exc k f p => obtain ⟨a, dd, v, e1, _⟩ := q; rw [hx] at e1; cases e1
  | scr ns => obtain ⟨a, e1, r⟩ := q; exact ⟨a, e1, by rw [hK]; exact r⟩
theorem clean_get {g : List Sl} {i : Nat} {s : Sl} (h : (cleanG g)[i]? = some s) : ∃ t, g[i]? = some t ∧ s = cleanS t := by
  unfold cleanG at h
  rw [List.getElem?_map] at h
  cases e : g[i]? with
  | none => rw [e] at h; cases h
  | some t => rw [e] at h; exact ⟨t, rfl, (Option.some.inj h).symm⟩
theorem rel_out {P P' : Pa} {c : Ctx} {g : List Sl} {σ : St} {H Z : Hp} (hK : P'.K = P.K) (R : Rel P' c g σ H Z) : Rel P c (cleanG g) σ H Z := by
  have iso : ∀ i : Nat, isO (cleanG g)[i]? = true → isO g[i]? = true := fun i h => by
    cases e : (cleanG g)[i]? with
    | none => rw [e] at h; cases h
    | some s =>
      obtain ⟨t, e1, rfl⟩ := clean_get e
      rw [e] at h; rw [e1]
      cases t <;> first | exact h | cases h
  refine ⟨R.sub, R.zf, R.fr, R.bo, by unfold cleanG; rw [List.length_map]; exact R.len, fun i s e => ?_, fun i j a hij hi hj => R.ds i j a hij (iso i hi) (iso j hj), fun i ds e => ?_⟩
  · obtain ⟨t, e1, rfl⟩ := clean_get e
    have q := R.sl i t e1
    cases t with
    | un => trivial
    | fro d => obtain ⟨v, e1, r⟩ := q; exact ⟨v, e1, by rw [← hK]; exact r⟩
    | own ds => obtain ⟨a, vs, e1, h1, h2, h3, r⟩ := q; exact ⟨a, vs, e1, h1, h2, h3, by rw [← hK]; exact r⟩
    | bor ds => obtain ⟨a, vs, e1, h1, h2, h3, r⟩ := q; exact ⟨a, vs, e1, h1, h2, h3, by rw [← hK]; exact r⟩
    | exc k f p => trivial
    | scr ns => obtain ⟨a, e1, r⟩ := q; exact ⟨a, e1, by rw [← hK]; exact r⟩
  · obtain ⟨t, e1, e2⟩ := clean_get e
    cases t <;> first | (cases e2; done) | skip
    exact R.b0 i _ e1
theorem clean_set {g : List Sl} {i : Nat} : cleanG (g.set i .un) = (cleanG g).set i .un := by
  unfold cleanG
  rw [List.map_set]; rfl
/-- the suites' readings -/
def sui (K : PySem.W.Frag) (cA : Nat → Addr) (h : Hdl) : Value × Option Nat × TSuite := (cV cA h.1, h.2.1, fun a cls d => TSo ⟨K, cA, some (a, cls, d)⟩ W0 h.2.2)
theorem vr_out {P P' : Pa} {c : Ctx} {g g' : List Sl} {σ σ' : St} {H Z : Hp} {v : V} {ev : EV} (hK : P'.K = P.K) (hn : ∀ i : Nat, isO g'[i]? = true → isO g[i]? = true ∧ σ'[i]? = σ[i]?) (hv : ∀ j, ev ≠ .var j) (h : VR P' c g σ H Z v ev) : VR P c g' σ' H Z v ev := by
  cases ev with
  | fro d => have h : Dq P'.K Z v d := h; exact (by rw [hK] at h; exact h)
  | own ds => obtain ⟨a, vs, e1, h1, h2, h3, r, n⟩ := h; exact ⟨a, vs, e1, h1, h2, h3, by rw [← hK]; exact r, fun i hi => by obtain ⟨k1, k2⟩ := hn i hi; rw [k2]; exact n i k1⟩
  | var i => exact absurd rfl (hv i)
theorem off_ok {s : SM Fl} {cl : List Sl → List Sl} {g : List Sl} {ok : Fl → List Sl → Prop} {ex : Nat → Str → D → List Sl → Prop} (p : Post ok ex (offS s cl g)) : Post (fun fl g' => okFl fl = true ∧ ok fl (cl g')) (fun _ _ _ _ => False) (s g) := by
  unfold offS at p
  cases e : s g with
  | ok x =>
    obtain ⟨fl, g'⟩ := x
    rw [e] at p
    have p : Post ok ex (if okFl fl = true then Res.ok (fl, cl g') else .stuck) := p
    by_cases h : okFl fl = true
    · rw [if_pos h] at p; exact ⟨h, p⟩
    · rw [if_neg h] at p; exact p.elim
  | exn _ _ _ _ => rw [e] at p; exact p.elim
  | stuck => rw [e] at p; exact p.elim
/-- an error of class k comes to the clauses -/
theorem hand_ok {K : PySem.W.Frag} {cA : Nat → Addr} {sb : Nat → Nat → Bool} {n : Nat} {Wout : WX} {c : Ctx} {Dd : Ends} {Z0 : Hp} {k : Nat} {f : Str} {q : D} (hk : 0 < k ∧ k < n) :
    ∀ {hs : List Hdl} {g : List Sl}, (∀ h ∈ hs, ∀ k, 0 < k → k < n → PySem.W.exmOne K (.ref (cA k)) (cV cA h.1) = some (sb k h.1)) →
      Post (fun fl g' => FlP ⟨K, cA, none⟩ c Dd Z0 g' fl) (exS ⟨K, cA, none⟩ c Wout) (hand sb hs k f q g) →
      ∀ dd v σ' H' Z', Same Z0 Z' → Z' dd = some (.xd [(f, v)]) → Dq K Z' v q → Rel ⟨K, cA, none⟩ c g σ' H' Z' → wCl K Wout Dd (hs.map (sui K cA)) (.ref (cA k)) (some dd) σ' H'
  | [], g, _, p => fun dd v σ' H' Z' s' ez r R => p dd v σ' H' Z' ez r R
  | (cc, none, s) :: hs, g, hf, p => fun dd v σ' H' Z' s' ez r R => by
    refine ⟨sb k cc, hf _ List.mem_cons_self k hk.1 hk.2, fun hb a na => ?_, fun hb => ?_⟩
    · have p : Post (fun fl g' => FlP ⟨K, cA, none⟩ c Dd Z0 g' fl) (exS ⟨K, cA, none⟩ c Wout) ((if sb k cc = true then offS s cleanG else hand sb hs k f q) g) := p
      rw [if_pos hb] at p
      refine ⟨c, g, Z', rel_in (P := ⟨K, cA, none⟩) (P' := ⟨K, cA, some (a, .ref (cA k), some dd)⟩) rfl rfl R, post_mono (off_ok p) (fun fl g' pp => ?_) fun _ _ _ _ z => z.elim⟩
      obtain ⟨okf, pp⟩ := pp
      cases fl with
      | nx => exact fun σ2 H2 Z2 s2 R2 => pp σ2 H2 Z2 (s'.trans s2) (rel_out (P' := ⟨K, cA, some (a, .ref (cA k), some dd)⟩) rfl R2)
      | bk => exact fun σ2 H2 Z2 s2 R2 => pp σ2 H2 Z2 (s'.trans s2) (rel_out (P' := ⟨K, cA, some (a, .ref (cA k), some dd)⟩) rfl R2)
      | ct => exact fun σ2 H2 Z2 s2 R2 => pp σ2 H2 Z2 (s'.trans s2) (rel_out (P' := ⟨K, cA, some (a, .ref (cA k), some dd)⟩) rfl R2)
      | rt ev =>
        refine fun w σ2 H2 Z2 s2 R2 vr => pp w σ2 H2 Z2 (s'.trans s2) (rel_out (P' := ⟨K, cA, some (a, .ref (cA k), some dd)⟩) rfl R2) (vr_out (P' := ⟨K, cA, some (a, .ref (cA k), some dd)⟩) rfl (fun i hi => ⟨?_, rfl⟩) (fun j e => by subst e; cases okf) vr)
        cases e : (cleanG g')[i]? with
        | none => rw [e] at hi; cases hi
        | some s => obtain ⟨t, e1, rfl⟩ := clean_get e; rw [e] at hi; rw [e1]; cases t <;> first | exact hi | cases hi
    · have p : Post (fun fl g' => FlP ⟨K, cA, none⟩ c Dd Z0 g' fl) (exS ⟨K, cA, none⟩ c Wout) ((if sb k cc = true then offS s cleanG else hand sb hs k f q) g) := p
      rw [if_neg (by rw [hb]; exact Bool.false_ne_true)] at p
      exact hand_ok hk (fun h hh => hf h (List.mem_cons_of_mem _ hh)) p dd v σ' H' Z' s' ez r R
  | (cc, some i, s) :: hs, g, hf, p => fun dd v σ' H' Z' s' ez r R => by
    refine ⟨sb k cc, hf _ List.mem_cons_self k hk.1 hk.2, fun hb a na => ?_, fun hb => ?_⟩
    · have p : Post (fun fl g' => FlP ⟨K, cA, none⟩ c Dd Z0 g' fl) (exS ⟨K, cA, none⟩ c Wout) ((if sb k cc = true then excP i k f q s else hand sb hs k f q) g) := p
      rw [if_pos hb] at p
      unfold excP at p
      have key : ∃ t, g[i]? = some t ∧ Post (fun fl g' => FlP ⟨K, cA, none⟩ c Dd Z0 g' fl) (exS ⟨K, cA, none⟩ c Wout) (offS s (fun g' => cleanG (g'.set i .un)) (g.set i (.exc k f q))) := by
        cases es : g[i]? with
        | none => rw [es] at p; exact p.elim
        | some t => rw [es] at p; cases t <;> first | exact p.elim | exact ⟨_, rfl, p⟩
      obtain ⟨t, es, p⟩ := key
      have hi : i < σ'.length := by rw [← R.len]; exact (List.getElem?_eq_some_iff.mp es).1
      have R1 : Rel ⟨K, cA, some (a, .ref (cA k), some dd)⟩ c (g.set i (.exc k f q)) (σ'.set i (some (.ref a))) H' Z' :=
        (rel_in (P := ⟨K, cA, none⟩) (P' := ⟨K, cA, some (a, .ref (cA k), some dd)⟩) rfl rfl R).put hi ⟨a, dd, v, rfl, rfl, ez, r⟩ (fun z => nomatch z) (fun _ z => nomatch z)
      refine ⟨c, _, Z', R1, post_mono (off_ok p) (fun fl g' pp => ?_) fun _ _ _ _ z => z.elim⟩
      obtain ⟨okf, pp⟩ := pp
      have back : ∀ {σ2 : St} {H2 Z2 : Hp}, Rel ⟨K, cA, some (a, .ref (cA k), some dd)⟩ c g' σ2 H2 Z2 → Rel ⟨K, cA, none⟩ c (cleanG (g'.set i .un)) (σ2.set i none) H2 Z2 := fun {σ2 H2 Z2} R2 => rel_out (P' := ⟨K, cA, some (a, .ref (cA k), some dd)⟩) rfl (R2.forget i none)
      cases fl with
      | nx => exact fun σ2 H2 Z2 s2 R2 => pp _ H2 Z2 (s'.trans s2) (back R2)
      | bk => exact fun σ2 H2 Z2 s2 R2 => pp _ H2 Z2 (s'.trans s2) (back R2)
      | ct => exact fun σ2 H2 Z2 s2 R2 => pp _ H2 Z2 (s'.trans s2) (back R2)
      | rt ev =>
        refine fun w σ2 H2 Z2 s2 R2 vr => pp w _ H2 Z2 (s'.trans s2) (back R2) (vr_out (P' := ⟨K, cA, some (a, .ref (cA k), some dd)⟩) (σ := σ2) rfl (fun j hj => ?_) (fun j e => by subst e; cases okf) vr)
        cases e : (cleanG (g'.set i .un))[j]? with
        | none => rw [e] at hj; cases hj
        | some s =>
          obtain ⟨t, e1, rfl⟩ := clean_get e
          rw [e] at hj
          rcases getE_set e1 with ⟨rfl, rfl⟩ | ⟨hne, e2⟩
          · cases hj
          · refine ⟨?_, List.getElem?_set_ne (Ne.symm hne)⟩
            rw [e2]; cases t <;> first | exact hj | cases hj
    · have p : Post (fun fl g' => FlP ⟨K, cA, none⟩ c Dd Z0 g' fl) (exS ⟨K, cA, none⟩ c Wout) ((if sb k cc = true then excP i k f q s else hand sb hs k f q) g) := p
      rw [if_neg (by rw [hb]; exact Bool.false_ne_true)] at p
      exact hand_ok hk (fun h hh => hf h (List.mem_cons_of_mem _ hh)) p dd v σ' H' Z' s' ez r R
/-- the entry set anew: what is frozen now belongs to it -/
def Ctx.reb (c : Ctx) (H Z : Hp) : Ctx := ⟨fun b => if (Z b).isSome = true then H b else c.H0 b, fun b => if (Z b).isSome = true then Z b else c.Z0 b, c.B⟩
theorem Rel.reb {P : Pa} {c : Ctx} {g : List Sl} {σ : St} {H Z : Hp} (R : Rel P c g σ H Z) : Rel P (c.reb H Z) g σ H Z := by
  have hs : ∀ b x, Z b = some x → (c.reb H Z).H0 b = H b ∧ (c.reb H Z).Z0 b = Z b := fun b x e => ⟨if_pos (by rw [e]; rfl), if_pos (by rw [e]; rfl)⟩
  have hn : ∀ b, Z b = none → (c.reb H Z).H0 b = c.H0 b ∧ (c.reb H Z).Z0 b = c.Z0 b := fun b e => ⟨if_neg (by rw [e]; exact Bool.false_ne_true), if_neg (by rw [e]; exact Bool.false_ne_true)⟩
  refine ⟨R.sub, fun b x e => ?_, fun b x e hb => ?_, fun a e => ?_, R.len, fun i s e => ?_, R.ds, R.b0⟩
  · cases ez : Z b with
    | some y => rw [(hs b y ez).2, ez]
    | none => rw [(hn b ez).1] at e; rw [(hn b ez).2, ← R.zf b x e, ez]
  · cases ez : Z b with
    | some y => rw [(hs b y ez).1] at e; exact e
    | none => rw [(hn b ez).1] at e; exact R.fr b x e hb
  · obtain ⟨⟨vs, h1⟩, x, h2⟩ := R.bo a e
    refine ⟨⟨vs, h1⟩, ?_⟩
    cases ez : Z a with
    | some y => exact ⟨_, by rw [(hs a y ez).1]; exact h1⟩
    | none => exact ⟨x, by rw [(hn a ez).1]; exact h2⟩
  · have q := R.sl i s e
    cases s with
    | own ds => obtain ⟨a, vs, e1, h1, h2, h3, r⟩ := q; exact ⟨a, vs, e1, h1, h2, by rw [(hn a h2).1]; exact h3, r⟩
    | un => exact q
    | fro d => exact q
    | bor ds => exact q
    | exc k f p => exact q
    | scr ns => exact q
theorem reb_none {P : Pa} {c : Ctx} {g : List Sl} {σ : St} {H Z : Hp} (R : Rel P c g σ H Z) {a : Addr} (h : (c.reb H Z).H0 a = none) : c.H0 a = none := by
  have h : (if (Z a).isSome = true then H a else c.H0 a) = none := h
  by_cases hz : (Z a).isSome = true
  · rw [if_pos hz] at h
    obtain ⟨x, e⟩ := Option.isSome_iff_exists.mp hz
    rw [R.sub a x e] at h; cases h
  · rw [if_neg hz] at h; exact h
theorem Rel.unreb {P : Pa} {c : Ctx} {g g' : List Sl} {σ σ' : St} {H Z H' Z' : Hp} (R : Rel P c g σ H Z) (R' : Rel P (c.reb H Z) g' σ' H' Z') : Rel P c g' σ' H' Z' ∧ Same Z Z' := by
  have hs : ∀ b x, Z b = some x → (c.reb H Z).H0 b = H b ∧ (c.reb H Z).Z0 b = Z b := fun b x e => ⟨if_pos (by rw [e]; rfl), if_pos (by rw [e]; rfl)⟩
  have hn : ∀ b, Z b = none → (c.reb H Z).H0 b = c.H0 b ∧ (c.reb H Z).Z0 b = c.Z0 b := fun b e => ⟨if_neg (by rw [e]; exact Bool.false_ne_true), if_neg (by rw [e]; exact Bool.false_ne_true)⟩
  have same : Same Z Z' := fun b x e => by
    have := R'.zf b x (by rw [(hs b x e).1]; exact R.sub b x e)
    rw [this, (hs b x e).2]; exact e
  refine ⟨⟨R'.sub, fun b x e => ?_, fun b x e hb => ?_, fun a e => ?_, R'.len, fun i s e => ?_, R'.ds, R'.b0⟩, same⟩
  · cases ez : Z b with
    | some y => rw [← R.zf b x e, ez]; exact same b y ez
    | none => rw [R'.zf b x (by rw [(hn b ez).1]; exact e), (hn b ez).2]
  · cases ez : Z b with
    | some y => exact R'.fr b x (by rw [(hs b y ez).1]; exact R.fr b x e hb) hb
    | none => exact R'.fr b x (by rw [(hn b ez).1]; exact e) hb
  · exact ⟨(R'.bo a e).1, (R.bo a e).2⟩
  · have q := R'.sl i s e
    cases s with
    | own ds => obtain ⟨a, vs, e1, h1, h2, h3, r⟩ := q; exact ⟨a, vs, e1, h1, h2, reb_none R h3, r⟩
    | un => exact q
    | fro d => exact q
    | bor ds => exact q
    | exc k f p => exact q
    | scr ns => exact q
theorem flP_reb {P : Pa} {c : Ctx} {g g' : List Sl} {σ : St} {H Z : Hp} {Dd : Ends} {fl : Fl} (R : Rel P c g σ H Z) (h : FlP P c Dd Z g' fl) : FlP P (c.reb H Z) Dd Z g' fl := by
  cases fl with
  | nx => exact fun σ' H' Z' s' R' => h σ' H' Z' s' (R.unreb R').1
  | bk => exact fun σ' H' Z' s' R' => h σ' H' Z' s' (R.unreb R').1
  | ct => exact fun σ' H' Z' s' R' => h σ' H' Z' s' (R.unreb R').1
  | rt ev =>
    refine fun v σ' H' Z' s' R' vr => h v σ' H' Z' s' (R.unreb R').1 ?_
    cases ev with
    | fro d => exact vr
    | var i => exact vr
    | own ds => obtain ⟨a, vs, e1, h1, h2, h3, r⟩ := vr; exact ⟨a, vs, e1, h1, h2, reb_none R h3, r⟩
theorem ms_try {X : Cx} {W : WX} {K : PySem.W.Frag} {cA : Nat → Addr} {sb : Nat → Nat → Bool} {n : Nat} {b : SM Fl} {hs : List Hdl} {body : List Stmt} {h₀ : ExceptHandler} {hds : List ExceptHandler} {pos : Pos} (hK : X.K = K)
    (hst : X.stack = X.env :: X.outer) (hfr : X.env.frame = some X.env.locals) (hN : X.N.Nodup) (tk : Takes X W)
    (hf : ∀ h ∈ hs, ∀ k, 0 < k → k < n → PySem.W.exmOne K (.ref (cA k)) (cV cA h.1) = some (sb k h.1))
    (hb : ∀ (W : WX) (pn : List (Addr × Obj)) (xe : Value → Shared → Prop), Takes (X.tr pn xe) W → PassesOwn (model X.prog X.w) X.A X.env xe → PSs (X.tr pn xe) body (TSo ⟨K, cA, none⟩ W b))
    (hk : ClsOk X (h₀ :: hds) (hs.map (sui K cA))) : PS X (.Try body (h₀ :: hds) [] [] pos) (TSo ⟨K, cA, none⟩ W (tryS sb n b hs)) := by
  refine psW (ps_try_cl (tb := fun W => TSo ⟨K, cA, none⟩ W b) hst hfr hN tk hb hk) fun Dd σ H ⟨c, g, Z, R, p⟩ => ?_
  rw [hK]
  refine ⟨c.reb H Z, g, Z, R.reb, ?_⟩
  unfold tryS at p
  cases e : b g with
  | ok x => rw [e] at p; exact flP_reb R p
  | stuck => rw [e] at p; exact p
  | exn k f q g' =>
    rw [e] at p
    have p : Post (fun fl g' => FlP ⟨K, cA, none⟩ c Dd Z g' fl) (exS ⟨K, cA, none⟩ c W) ((if 0 < k ∧ k < n then hand sb hs k f q else fun _ => .stuck) g') := by
      by_cases hkn : 0 < k ∧ k < n
      · rw [if_pos hkn]
        have p : Post (fun fl g' => FlP ⟨K, cA, none⟩ c Dd Z g' fl) (exS ⟨K, cA, none⟩ c W) ((if 0 < k ∧ k < n then hand sb hs k f q g' else .stuck)) := p
        rw [if_pos hkn] at p; exact p
      · have p : Post (fun fl g' => FlP ⟨K, cA, none⟩ c Dd Z g' fl) (exS ⟨K, cA, none⟩ c W) ((if 0 < k ∧ k < n then hand sb hs k f q g' else .stuck)) := p
        rw [if_neg hkn] at p; exact p.elim
    by_cases hkn : 0 < k ∧ k < n
    · rw [if_pos hkn] at p
      refine fun dd v σ' H' Z' ez r R' => ?_
      obtain ⟨R2, s2⟩ := R.unreb R'
      exact hand_ok hkn hf p dd v σ' H' Z' s2 ez r R2
    · rw [if_neg hkn] at p; exact p.elim

/-! ## the error in hand -/
/-- what is asked of the class of an error -/
structure ErC (K : PySem.W.Frag) (C : Addr) : Prop where
  ga : PySem.W.findIn K (.ref C) "__getattribute__" = some (some (.builtin "BaseException.__getattribute__"))
  gg : PySem.W.findIn K (.ref C) "__getattr__" = some none
  ex : PySem.W.subIn K (.ref C) (.type "BaseException") = some true
  hd : PySem.W.hasDictIn K C = true
  cl : PySem.W.findIn K (.ref C) "__class__" = some (some (.builtin "object.__class__"))
  sg : PySem.W.specialIn K (.builtin "object.__class__") "__get__" = some (some (.builtin "getset_descriptor.__get__"))
  tk : PySem.W.takesIn K (.builtin "object.__class__") = some true
  mo : PySem.W.mroIn K C (.type "object") = some true
def rIsx (K : PySem.W.Frag) (a : Addr) (cls : Value) (d : Option Addr) : List V → Hp → VK → Prop := fun xs H Q => ∃ (D dd : Addr) (fs : List (Str × V)), cls = .ref D ∧ ErC K D ∧ d = some dd ∧ H dd = some (.xd fs) ∧
  ((∃ (c : V) (cv : Value) (b : Bool), xs = [.ref a, c] ∧ ClsV c cv ∧ PySem.W.kitOne K (.ref D) cv = some b ∧ Q (.bl b) H) ∨
   (∃ (tp : Addr) (cs : List V) (us : List Value) (b : Bool), xs = [.ref a, .ref tp] ∧ H tp = some (.tup cs) ∧ Paired ClsV cs us ∧ PySem.W.kitAny K (.ref D) us = some b ∧ Q (.bl b) H))
theorem call_isx {X : Cx} {a : Addr} {oe : Obj} {cls : Value} {d : Option Addr} {pn : List (Addr × Obj)} (hz : Zc cls d oe) (hf : ∃ vs, oe.data = .fields vs) : CallR (X.suite a ((a, oe) :: pn)) (.builtin "isinstance") (rIsx X.K a cls d) := by
  intro pins s σ H xs us Q I r h
  obtain ⟨D, dd, fs, rfl, E, rfl, hdd, h⟩ := h
  obtain ⟨hget, _⟩ := I.pin (a, oe) (List.mem_append.mpr (.inl List.mem_cons_self))
  obtain ⟨vs, hv⟩ := hf
  have hx : ObjOk X.prog X.w H s.heap dd (.xd fs) := I.hok dd _ hdd
  obtain ⟨mA, hns, _⟩ := hx
  obtain ⟨od, ho, _⟩ := lookIn_ns hns
  have J : PySem.W.InstAt s.heap a oe D (some od) := ⟨hget, hz.1, by unfold PySem.W.notCls; rw [hv] <;> rfl, by rw [hz.2]; exact ho⟩
  have hcl : (PySem.W.clsIn X.K D).isSome = true := by
    obtain ⟨cd, hc, _⟩ := PySem.W.any_some E.hd
    rw [hc]; rfl
  have Kx := PySem.W.kitx_exc (K := X.K) (x := a) (C := D) (ox := oe) (od := some od) hcl E.ga E.gg E.ex E.cl E.sg E.tk E.mo
  rcases h with ⟨c, cv, b, rfl, hc, e, q⟩ | ⟨tp, cs, us', b, rfl, htp, hp, e, q⟩
  · cases r with
    | cons rx rr =>
      cases rr with
      | cons rt rr =>
        cases rr
        cases rx
        have ec := hc.eq rt
        subst ec
        exact PySem.W.kia_one Kx I.kIn J e (fun z => nomatch z) fun tk => ⟨.bl b, H, I.kept (t' := tk) fun _ _ z => z, rfl, q⟩
  · cases r with
    | cons rx rr =>
      cases rr with
      | cons rt rr =>
        cases rr
        cases rx
        cases rt
        obtain ⟨_, its, rv, o, h1, h2, n, h3⟩ := (show ObjOk X.prog X.w H s.heap tp (.tup cs) from I.hok tp _ htp)
        have e3 := ClsV.all hp rv
        subst e3
        obtain ⟨oc, od', dt, sl⟩ := o
        simp only at h2 h3
        subst h2 h3
        exact PySem.W.kia_tup Kx I.kIn J h1 e (fun z => nomatch z) fun tk => ⟨.bl b, H, I.tok tk, rfl, q⟩
/-- the facts of the classes 1 .. n - 1 of errors, 0 is ValueError -/
structure Errs (K : PySem.W.Frag) (cA : Nat → Addr) (sb : Nat → Nat → Bool) (n : Nat) : Prop where
  er : ∀ k, 0 < k → k < n → ErC K (cA k)
  kit : ∀ k, 0 < k → k < n → ∀ j, j < n → PySem.W.kitOne K (.ref (cA k)) (cV cA j) = some (sb k j)
  exm : ∀ k, 0 < k → k < n → ∀ j, j < n → PySem.W.exmOne K (.ref (cA k)) (cV cA j) = some (sb k j)
  f1 : ∀ k, 0 < k → k < n → ∀ f : Str, (f = "at" ∨ f = "limit" ∨ f = "line") → PySem.W.findIn K (.ref (cA k)) f = some none
def cVV (cA : Nat → Addr) : Nat → V
  | 0 => .ty "ValueError"
  | j => .ref (cA j)
theorem cVV_ok {cA : Nat → Addr} : ∀ j : Nat, ClsV (cVV cA j) (cV cA j)
  | 0 => .ty _
  | j + 1 => .own _
/-- isinstance(error, C): error in slot i -/
def isxE (sb : Nat → Nat → Bool) (n : Nat) (i : Nat) (cs : List Nat) : SM EV := fun g => match g[i]? with
  | some (.exc k _ _) => if 0 < k ∧ k < n then .ok (.fro (.bool (cs.any (sb k))), g) else .stuck
  | _ => .stuck
def fldE (n : Nat) (i : Nat) (x : Str) : SM EV := fun g => match g[i]? with
  | some (.exc k f p) => if 0 < k ∧ k < n ∧ f = x then .ok (.fro p, g) else .stuck
  | _ => .stuck
def tCs : List V → TA
  | [] => tNil
  | v :: vs => tCons (tC v) (tCs vs)
theorem tCs_ok : ∀ {vs : List V} {σ : St} {H : Hp} {Q : List V → Hp → Prop}, Q vs H → tCs vs σ H Q
  | [], _, _, _, q => q
  | v :: vs, σ, H, Q, q => tCs_ok (vs := vs) (Q := fun xs H2 => Q (v :: xs) H2) q
section
variable {X : Cx} {K : PySem.W.Frag} {cA : Nat → Addr} {sb : Nat → Nat → Bool} {n : Nat} {a : Addr} {oe : Obj} {cls : Value} {d : Option Addr} {pn : List (Addr × Obj)} {e : Expr} {i : Nat} {pos : Pos} {W : WX}
theorem exc_at {c : Ctx} {g : List Sl} {σ : St} {H Z : Hp} {k : Nat} {f : Str} {p : D} (R : Rel ⟨K, cA, some (a, cls, d)⟩ c g σ H Z) (es : g[i]? = some (.exc k f p)) : σ[i]? = some (some (.ref a)) ∧ cls = .ref (cA k) ∧ ∃ dd v, d = some dd ∧ Z dd = some (.xd [(f, v)]) ∧ Dq K Z v p := by
  obtain ⟨a', dd, v, e1, e2, e3, r⟩ := R.sl i _ es
  have e1 : some (a, cls, d) = some (a', .ref (cA k), some dd) := e1
  have e4 := Option.some.inj e1
  have ea : a = a' := congrArg Prod.fst e4
  have ec : cls = .ref (cA k) := congrArg (fun z => z.2.1) e4
  have ed : d = some dd := congrArg (fun z => z.2.2) e4
  exact ⟨by rw [ea]; exact e2, ec, dd, v, ed, e3, r⟩
theorem isx_1 (E : Errs K cA sb n) {j : Nat} (hj : j < n) (h : PE (X.suite a ((a, oe) :: pn)) e (tCB (rIsx K a cls d) (tCons (tVar i) (tCons (tC (cVV cA j)) tNil)))) : PE (X.suite a ((a, oe) :: pn)) e (TEo ⟨K, cA, some (a, cls, d)⟩ W (isxE sb n i [j])) :=
  peW h fun σ H Q ⟨c, g, Z, R, p⟩ => by
    unfold isxE at p
    cases es : g[i]? with
    | none => rw [es] at p; exact p.elim
    | some s =>
      rw [es] at p
      cases s with
      | un => exact p.elim
      | fro _ => exact p.elim
      | own _ => exact p.elim
      | bor _ => exact p.elim
      | scr _ => exact p.elim
      | exc k f q =>
        obtain ⟨h1, h2, dd, v, h3, h4, h5⟩ := exc_at R es
        by_cases hk : 0 < k ∧ k < n
        · have p : Post (fun ev g' => ∀ v H' Z', Same Z Z' → Rel ⟨K, cA, some (a, cls, d)⟩ c g' σ H' Z' → VR ⟨K, cA, some (a, cls, d)⟩ c g' σ H' Z' v ev → Q v H') (exK ⟨K, cA, some (a, cls, d)⟩ c σ W) (if 0 < k ∧ k < n then Res.ok (EV.fro (.bool ([j].any (sb k))), g) else .stuck) := p
          rw [if_pos hk] at p
          refine ⟨_, h1, cA k, dd, _, h2, E.er k hk.1 hk.2, h3, R.sub _ _ h4, .inl ⟨_, _, sb k j, rfl, cVV_ok j, E.kit k hk.1 hk.2 j hj, ?_⟩⟩
          have := p (.bl (sb k j)) H Z (Same.refl _) R (by rw [List.any_cons, List.any_nil, Bool.or_false]; exact .bl _)
          exact this
        · have p : Post (fun ev g' => ∀ v H' Z', Same Z Z' → Rel ⟨K, cA, some (a, cls, d)⟩ c g' σ H' Z' → VR ⟨K, cA, some (a, cls, d)⟩ c g' σ H' Z' v ev → Q v H') (exK ⟨K, cA, some (a, cls, d)⟩ c σ W) (if 0 < k ∧ k < n then Res.ok (EV.fro (.bool ([j].any (sb k))), g) else .stuck) := p
          rw [if_neg hk] at p; exact p.elim
theorem kitAny_of (E : Errs K cA sb n) {k : Nat} (hk : 0 < k ∧ k < n) : ∀ {js : List Nat}, (∀ j ∈ js, j < n) → PySem.W.kitAny K (.ref (cA k)) (js.map (cV cA)) = some (js.any (sb k))
  | [], _ => rfl
  | j :: js, h => by
    refine kitAny_cons (E.kit k hk.1 hk.2 j (h j List.mem_cons_self)) (fun hb => ?_) fun hb => ?_
    · rw [kitAny_of E hk fun i hi => h i (List.mem_cons_of_mem _ hi), List.any_cons, hb]; rfl
    · rw [List.any_cons, hb]; rfl
theorem clsL {cA : Nat → Addr} : ∀ js : List Nat, Paired ClsV (js.map (cVV cA)) (js.map (cV cA))
  | [] => .nil
  | j :: js => .cons (cVV_ok j) (clsL js)
theorem isx_N (E : Errs K cA sb n) {js : List Nat} (hj : ∀ j ∈ js, j < n) (hz : js.length ≤ SZ) (h : PE (X.suite a ((a, oe) :: pn)) e (tCB (rIsx K a cls d) (tCons (tVar i) (tCons (tTup (tCs (js.map (cVV cA)))) tNil)))) : PE (X.suite a ((a, oe) :: pn)) e (TEo ⟨K, cA, some (a, cls, d)⟩ W (isxE sb n i js)) :=
  peW h fun σ H Q ⟨c, g, Z, R, p⟩ => by
    unfold isxE at p
    cases es : g[i]? with
    | none => rw [es] at p; exact p.elim
    | some s =>
      rw [es] at p
      cases s with
      | un => exact p.elim
      | fro _ => exact p.elim
      | own _ => exact p.elim
      | bor _ => exact p.elim
      | scr _ => exact p.elim
      | exc k f q =>
        obtain ⟨h1, h2, dd, v, h3, h4, h5⟩ := exc_at R es
        by_cases hk : 0 < k ∧ k < n
        · have p : Post (fun ev g' => ∀ v H' Z', Same Z Z' → Rel ⟨K, cA, some (a, cls, d)⟩ c g' σ H' Z' → VR ⟨K, cA, some (a, cls, d)⟩ c g' σ H' Z' v ev → Q v H') (exK ⟨K, cA, some (a, cls, d)⟩ c σ W) (if 0 < k ∧ k < n then Res.ok (EV.fro (.bool (js.any (sb k))), g) else .stuck) := p
          rw [if_pos hk] at p
          refine ⟨_, h1, tCs_ok ⟨by rw [List.length_map, ← SZ_eq]; exact hz, fun t ht => ?_⟩⟩
          refine ⟨cA k, dd, [(f, v)], h2, E.er k hk.1 hk.2, h3, ?_, .inr ⟨t, _, _, js.any (sb k), rfl, upd_same, clsL js, kitAny_of E hk hj, p (.bl _) _ _ (same_new (R.zn ht)) (R.newZ ht) (.bl _)⟩⟩
          rw [upd_ne (ne_of_none (R.sub _ _ h4) ht)]; exact R.sub _ _ h4
        · have p : Post (fun ev g' => ∀ v H' Z', Same Z Z' → Rel ⟨K, cA, some (a, cls, d)⟩ c g' σ H' Z' → VR ⟨K, cA, some (a, cls, d)⟩ c g' σ H' Z' v ev → Q v H') (exK ⟨K, cA, some (a, cls, d)⟩ c σ W) (if 0 < k ∧ k < n then Res.ok (EV.fro (.bool (js.any (sb k))), g) else .stuck) := p
          rw [if_neg hk] at p; exact p.elim
theorem me_fld (E : Errs K cA sb n) (hK : X.K = K) (hz : Zc cls d oe) (hf : ∃ vs, oe.data = .fields vs) {x : Str} (hx : x = "at" ∨ x = "limit" ∨ x = "line") (he : PE (X.suite a ((a, oe) :: pn)) e (tVar i)) (hb : attributeBase e x X.env (eval e X.env) = eval e X.env := by rfl) :
    PE (X.suite a ((a, oe) :: pn)) (.Attribute e x pos) (TEo ⟨K, cA, some (a, cls, d)⟩ W (fldE n i x)) := ⟨fun pins s σ H Q I ⟨c, g, Z, R, p⟩ => by
    unfold fldE at p
    cases es : g[i]? with
    | none => rw [es] at p; exact p.elim
    | some s =>
      rw [es] at p
      cases s with
      | un => exact p.elim
      | fro _ => exact p.elim
      | own _ => exact p.elim
      | bor _ => exact p.elim
      | scr _ => exact p.elim
      | exc k f q =>
        obtain ⟨h1, h2, dd, v, h3, h4, h5⟩ := exc_at R es
        by_cases hk : 0 < k ∧ k < n ∧ f = x
        · have p : Post (fun ev g' => ∀ v H' Z', Same Z Z' → Rel ⟨K, cA, some (a, cls, d)⟩ c g' σ H' Z' → VR ⟨K, cA, some (a, cls, d)⟩ c g' σ H' Z' v ev → Q v H') (exK ⟨K, cA, some (a, cls, d)⟩ c σ W) (if 0 < k ∧ k < n ∧ f = x then Res.ok (EV.fro q, g) else .stuck) := p
          rw [if_pos hk] at p
          have p0 := p
          clear p
          obtain ⟨k1, k2, k3⟩ := hk
          subst k3
          subst h2
          subst h3
          have p := p0
          have Ek := E.er k k1 k2
          have T : XfC X.K (cA k) := by rw [hK]; exact ⟨Ek.ga, Ek.gg, Ek.ex, Ek.hd⟩
          refine (pe_xf (pos := pos) T (by rw [hK]; exact E.f1 k k1 k2 f hx) hz hf he hb).run pins s σ H Q I ?_
          exact ⟨_, h1, rfl, rfl, dd, _, v, rfl, R.sub _ _ h4, by simp [List.lookup], p v H Z (Same.refl _) R h5⟩
        · have p : Post (fun ev g' => ∀ v H' Z', Same Z Z' → Rel ⟨K, cA, some (a, cls, d)⟩ c g' σ H' Z' → VR ⟨K, cA, some (a, cls, d)⟩ c g' σ H' Z' v ev → Q v H') (exK ⟨K, cA, some (a, cls, d)⟩ c σ W) (if 0 < k ∧ k < n ∧ f = x then Res.ok (EV.fro q, g) else .stuck) := p
          rw [if_neg hk] at p; exact p.elim⟩
end

/-! ## isinstance of data -/
inductive Ty where
  | int | bool | str | list | tuple
def Ty.nm : Ty → String
  | .int => "int" | .bool => "bool" | .str => "str" | .list => "list" | .tuple => "tuple"
def isTy : Ty → D → Bool
  | .int, .int _ => true | .int, .bool _ => true | .bool, .bool _ => true | .str, .str _ => true | .list, .list _ => true | .tuple, .tuple _ => true
  | _, _ => false
def tyN : D → String
  | .none => "NoneType" | .bool _ => "bool" | .int _ => "int" | .str _ => "str" | .list _ => "list" | .tuple _ => "tuple" | .dict _ => "dict"
def isiF (ts : List Ty) (d : D) : Option Out := match d with
  | .dict _ => none
  | d => vB (ts.any fun t => isTy t d)
theorem tyx_of {K : PySem.W.Frag} {H Z : Hp} {v : V} {d : D} (h : Rr K H Z v d) (s : Same Z H) : TyX K H v (.type (tyN d)) := by
  cases d with
  | none => rw [h.non]; exact .base .non
  | bool b => rw [h.bl]; exact .base (.bl b)
  | int b => rw [h.int]; exact .base (.int b)
  | str b => rw [h.str]; exact .base (.str b)
  | list ds => obtain ⟨a, vs, rfl, h1, r1⟩ := h.lst s; exact .base (.lst h1)
  | tuple ds =>
    obtain ⟨a, vs, rfl, h1, r1⟩ := h.tup s
    rcases h1 with (h1 | ⟨o, h1⟩) | ⟨o, its, n, hk, hc, _⟩
    · exact .base (.tup h1)
    · exact .fTuple h1
    · exact .kTuple hk hc
  | dict _ => cases h with | z h => cases h
theorem kb_NoneType (t : Ty) : kitB "NoneType" t.nm = some (isTy t (.none)) := by cases t <;> decide +kernel
theorem kb_bool (t : Ty) : kitB "bool" t.nm = some (isTy t (.bool true)) := by cases t <;> decide +kernel
theorem kb_int (t : Ty) : kitB "int" t.nm = some (isTy t (.int 0)) := by cases t <;> decide +kernel
theorem kb_str (t : Ty) : kitB "str" t.nm = some (isTy t (.str "")) := by cases t <;> decide +kernel
theorem kb_list (t : Ty) : kitB "list" t.nm = some (isTy t (.list [])) := by cases t <;> decide +kernel
theorem kb_tuple (t : Ty) : kitB "tuple" t.nm = some (isTy t (.tuple [])) := by cases t <;> decide +kernel
theorem kit_d {K : PySem.W.Frag} (d : D) (t : Ty) (h : ∀ kvs, d ≠ .dict kvs) : PySem.W.kitOne K (.type (tyN d)) (.type t.nm) = some (isTy t d) := by
  cases d with
  | dict k => exact absurd rfl (h k)
  | none => exact kit_ty (kb_NoneType t)
  | bool b => exact (kit_ty (kb_bool t)).trans (by cases t <;> rfl)
  | int b => exact (kit_ty (kb_int t)).trans (by cases t <;> rfl)
  | str b => exact (kit_ty (kb_str t)).trans (by cases t <;> rfl)
  | list b => exact (kit_ty (kb_list t)).trans (by cases t <;> rfl)
  | tuple b => exact (kit_ty (kb_tuple t)).trans (by cases t <;> rfl)
theorem kitL {K : PySem.W.Frag} {d : D} (h : ∀ kvs, d ≠ .dict kvs) : ∀ ts : List Ty, PySem.W.kitAny K (.type (tyN d)) (ts.map fun t => Value.type t.nm) = some (ts.any fun t => isTy t d)
  | [] => rfl
  | t :: ts => by
    refine kitAny_cons (kit_d d t h) (fun hb => ?_) fun hb => ?_
    · rw [kitL h ts, List.any_cons, hb]; rfl
    · rw [List.any_cons, hb]; rfl
theorem tysP : ∀ ts : List Ty, Paired ClsV (ts.map fun t => V.ty t.nm) (ts.map fun t => Value.type t.nm)
  | [] => .nil
  | t :: ts => .cons (.ty _) (tysP ts)
section
variable {X : Cx} {P : Pa} {W : WX} {e : Expr} {da : SM EV}
theorem me_isi1 {t : Ty} (h : PE X e (tCB (rIsi P.K) (tCons (TEo P W da) (tCons (tC (.ty t.nm)) tNil)))) : PE X e (TEo P W (op1 (isiF [t]) da)) :=
  peW h fun σ H Q ⟨c, g, Z, R, p⟩ => TEo.on R p fun x g1 v H1 Z1 s1 R1 vx p1 => by
    refine app1_ok (r := fun x H Q => rIsi P.K [x, .ty t.nm] H Q) (fun H Z x d o Q s h e q => ?_) R1 vx p1 fun o q => out_fin R1 s1 q
    have nd : ∀ kvs, d ≠ .dict kvs := fun kvs z => by subst z; cases e
    have eo : o = .val (.bool ([t].any fun t => isTy t d)) := by
      unfold isiF at e
      cases d <;> first | (cases e; rfl) | (cases e)
    subst eo
    refine ⟨x, _, _, _, isTy t d, rfl, .ty _, tyx_of h s, kit_d d t nd, ?_⟩
    have := q (.bl (isTy t d)) (by rw [List.any_cons, List.any_nil, Bool.or_false]; exact .bl _)
    exact this
theorem me_isiN {ts : List Ty} (hz : ts.length ≤ SZ) (h : PE X e (tCB (rIsiT P.K) (tCons (TEo P W da) (tCons (tTup (tCs (ts.map fun t => V.ty t.nm))) tNil)))) : PE X e (TEo P W (op1 (isiF ts) da)) :=
  peW h fun σ H Q ⟨c, g, Z, R, p⟩ => TEo.on R p fun x g1 v H1 Z1 s1 R1 vx p1 => by
    refine tCs_ok ⟨by rw [List.length_map, ← SZ_eq]; exact hz, fun t ht => ?_⟩
    have sT := same_new (o := .tup (ts.map fun t => V.ty t.nm)) (R1.zn ht)
    refine app1_ok (r := fun x H Q => H t = some (.tup (ts.map fun t => V.ty t.nm)) → rIsiT P.K [x, .ref t] H Q) (fun H Z x d o Q s h e q ht => ?_) (R1.newZ ht) (vx.mono sT) p1 (fun o q => out_fin (R1.newZ ht) (s1.trans sT) q) upd_same
    have nd : ∀ kvs, d ≠ .dict kvs := fun kvs z => by subst z; cases e
    have eo : o = .val (.bool (ts.any fun t => isTy t d)) := by
      unfold isiF at e
      cases d <;> first | (cases e; rfl) | (cases e)
    subst eo
    exact ⟨x, t, _, _, _, _, rfl, ht, tysP ts, tyx_of h s, kitL nd ts, q _ (.bl _)⟩
end
end Mw
namespace Mw
open PySem L2

/-! ## own errors made -/
/-- `self.f = e` in an __init__(self, at): the field's value -/
def iniD (den : SM EV) : D → Option D := fun d => match bnd den esc [.un, .fro d] with
  | .ok (d', _) => some d'
  | _ => none
def SpI (K : PySem.W.Frag) (C : Addr) (f : Str) (den : SM EV) : Sp := fun vs H Q E => ∃ a y d Z d', vs = [.ref a, y] ∧ OexC K C ∧ PySem.W.findIn K (.ref C) f = some none ∧ H a = some (exo a C none) ∧ Z a = none ∧ Same Z H ∧ Dq K Z y d ∧ iniD den d = some d' ∧
  ∀ y' H' Z' dx, Left K H Z none none H' Z' → Dq K Z' y' d' → H' dx = none → dx ≠ a → Q .non (upd (upd H' dx (exd dx [(f, y')])) a (exo a C (some dx)))
theorem init_ok {P : Program} {w : World} {K : PySem.W.Frag} {mg : Str → Option Value} {base : Heap} {cA : Nat → Addr} {x qual : Str} {st : Stmt} {fI C : Addr} {fd : FuncData} {N ps : List Str} {k : Nat} {f : Str} {den : SM EV} {o : Expr} {e : Expr} {p p' : Pos} (F : L2.Fun K x qual st fI fd) (S : FnScope N ps (defScope st)) (hp : ps.length = 2) (hN : N.length = 2)
    (hst : defBody st = [.Assign [.Attribute o f p'] e p])
    (hb : ∀ (cdv : Value) (A : Around) (outer : List Env) (s : Shared) (H : Hp) (E : XK) (X : Cx), X = cxOf (L2.CX P w) P w K mg base N qual (defScope st) fI cdv A outer s H E → Room k X.A →
      Takes X (fun cls d _ H => E cls d H) → PassesOwn (model X.prog X.w) X.A X.env X.xe → PE (cxOf (L2.CX P w) P w K mg base N qual (defScope st) fI cdv A outer s H E) o (tVar 0) ∧ PE (cxOf (L2.CX P w) P w K mg base N qual (defScope st) fI cdv A outer s H E) e (TEo ⟨K, cA, none⟩ (fun cls d _ H => E cls d H) den)
        ∧ (swapsWith e (some (.Attribute o f p')) p.line (cxOf (L2.CX P w) P w K mg base N qual (defScope st) fI cdv A outer s H E).env = pure false)) :
    FnOk P w K mg base (L2.CX P w) (k + 1) fI fd ps (SpI K C f den) := by
  refine F.okX S (fun vs H Q E h => ?_) (fun cdv A outer s H vs Q E hr h => ?_)
  · obtain ⟨a, y, d, Z, d', rfl, _⟩ := h
    rw [hp]; rfl
  · obtain ⟨ho, he, hs⟩ := hb cdv A outer s H E _ rfl hr (takes_of rfl rfl rfl rfl) (passes_of rfl)
    refine ⟨_, by rw [hst]; exact pss_one (ps_ost ho he hs), ?_⟩
    obtain ⟨a, y, d, Z, d', rfl, oc, hno, ea, za, sz, hd, hi, q⟩ := h
    have R : Rel ⟨K, cA, none⟩ ⟨H, Z, none⟩ [.un, .fro d] (L2.start N [.ref a, y]) H Z := by
      refine ⟨sz, fun _ _ _ => rfl, fun _ _ e _ => e, (fun a e => nomatch e), ?_, fun i s e => ?_, fun i j b hij hi' hj => ?_, fun i ds e => ?_⟩
      · unfold L2.start
        rw [List.length_append, List.length_map, List.length_replicate, hN]; rfl
      · match i, e with
        | 0, e => cases e; trivial
        | 1, e => cases e; exact ⟨y, rfl, hd⟩
        | i + 2, e => cases e
      · exfalso
        match i, hi' with
        | 0, z => cases z
        | 1, z => cases z
        | i + 2, z => cases z
      · match i, e with
        | 0, e => cases e
        | 1, e => cases e
        | i + 2, e => cases e
    refine ⟨_, _, Z, R, ?_⟩
    unfold iniD at hi
    -- the value, escaped
    have key : Post (fun ev g' => ∃ d2 g2, esc ev g' = .ok (d2, g2) ∧ d2 = d') (fun _ _ _ _ => False) (den [.un, .fro d]) := by
      cases e1 : den [.un, .fro d] with
      | ok x =>
        obtain ⟨ev, g'⟩ := x
        have e2 : bnd den esc [.un, .fro d] = esc ev g' := by unfold bnd; rw [e1]
        rw [e2] at hi
        cases e3 : esc ev g' with
        | ok z => obtain ⟨d2, g2⟩ := z; rw [e3] at hi; exact ⟨d2, g2, e3, Option.some.inj hi⟩
        | exn _ _ _ _ => rw [e3] at hi; cases hi
        | stuck => rw [e3] at hi; cases hi
      | exn c x p g =>
        have e2 : bnd den esc [.un, .fro d] = .exn c x p g := by unfold bnd; rw [e1]
        rw [e2] at hi; cases hi
      | stuck =>
        have e2 : bnd den esc [.un, .fro d] = .stuck := by unfold bnd; rw [e1]
        rw [e2] at hi; cases hi
    refine post_mono key (fun ev g' hev v H1 Z1 s1 R1 vr => ?_) fun _ _ _ _ z => z.elim
    obtain ⟨d2, g2, e3, rfl⟩ := hev
    -- the value belongs to the frozen part
    have hesc : ∃ Z2 g3, Same Z1 Z2 ∧ Rel ⟨K, cA, none⟩ ⟨H, Z, none⟩ g3 (L2.start N [.ref a, y]) H1 Z2 ∧ Dq K Z2 v d2 := by
      cases ev with
      | fro dd => have : dd = d2 := by unfold esc ret at e3; cases e3; rfl
                  subst this; exact ⟨Z1, g', Same.refl _, R1, vr⟩
      | own ds =>
        have : PyData.list ds = d2 := by unfold esc ret at e3; cases e3; rfl
        subst this
        obtain ⟨b, vs, rfl, h1, h2, h3, r, n⟩ := vr
        exact ⟨_, g', same_new h2, R1.frz h1 h3 h2 n, .lst upd_same (dpAM (same_new h2) r)⟩
      | var i =>
        have q1 : Post (fun d3 g3 => d3 = d2) (fun _ _ _ _ => True) (esc (.var i) g') := by rw [e3]; rfl
        obtain ⟨d3, g3, Z2, s2, R2, r2, q2⟩ := esc_ok R1 (ev := .var i) (v := v) vr q1
        subst q2
        exact ⟨Z2, g3, s2, R2, r2⟩
    obtain ⟨Z2, g3, s2, R2, r2⟩ := hesc
    refine ⟨_, rfl, a, C, rfl, oc, hno, .inl ⟨R2.fr a _ ea (fun z => nomatch z), fun dx hx na => ?_⟩⟩
    exact q v H1 Z2 dx ⟨s1.trans s2, R2.sub, R2.zf, fun b x e _ => R2.fr b x e (fun z => nomatch z), fun b z => nomatch z⟩ r2 hx na
/-- `raise C(e)` -/
def raiseS (k : Nat) (f : Str) (ini : D → Option D) (da : SM EV) : SM Fl := bnd da fun ev => bnd (esc ev) fun d => fun g => match ini d with
  | some d' => .exn k f d' g
  | none => .stuck
theorem ms_raise {X : Cx} {P : Pa} {W : WX} {x f : Str} {fI : Addr} {k j : Nat} {fd : FuncData} {ps : List Str} {den da : SM EV} {e : Expr} {p pos pos' : Pos} (T : OexC X.K (P.cA j)) (hK : X.K = P.K) (iC : PySem.W.findIn X.K (.ref (P.cA j)) "__init__" = some (some (.ref fI))) (tI : PySem.W.typeIn X.K (.ref fI) = some (.type "function")) (hno : PySem.W.findIn P.K (.ref (P.cA j)) f = some none)
    (F1 : FnOk X.prog X.w X.K X.mg X.base (L2.CX X.prog X.w) k fI fd ps (SpI P.K (P.cA j) f den)) (hr : Room (k + 1) X.A) (hb : Binds X.K fd ps []) (tk : Takes X W) (hc : X.calm = true) (hg : Gl X x) (hm : X.mg x = some (.ref (P.cA j))) (ha : PE X e (TEo P W da))
    (hdb : (x == ("__debug__" : Str)) = false := by decide) (he : starEach (e :: []) X.env = (false, eval e X.env) :: starEach [] X.env := by rfl) (hpl : (backTo pos (starEach [] X.env)).any (·.1) = false := by rfl) :
    PS X (.Raise (some (.Call (.Name x p) [e] [] pos)) none pos') (TSo P W (raiseS j f (iniD den) da)) := by
  refine psW (ps_raise hc tk (pmk_oex T iC tI F1 hr hb .nil (passes_call tk (fun _ _ _ _ z => z.elim)) hg hm (pa_cons ha pa_nil he) hdb he hpl)) fun Dd σ H ⟨c, g, Z, R, p⟩ => ?_
  refine TEo.onS R p fun ev g1 v H1 Z1 s1 R1 vr p1 => ?_
  have fin : ∀ {d : D} {g2 : List Sl} {Z2 : Hp}, Rel P c g2 σ H1 Z2 → Dq P.K Z2 v d → Post (fun fl g' => FlP P c Dd Z g' fl) (exS P c W) ((fun g => match iniD den d with
      | some d' => Res.exn j f d' g
      | none => .stuck) g2) → tNil σ H1 (fun ys H2 => ∀ a, H2 a = none → SpI P.K (P.cA j) f den (.ref a :: ((v :: ys) ++ [])) (upd H2 a (exo a (P.cA j) none)) (fun u H3 => u = .non ∧ ∃ (dx : Addr) (fs : List (Str × V)), H3 a = some (exo a (P.cA j) (some dx)) ∧ H3 dx = some (exd dx fs) ∧ H2 dx = none ∧ W (.ref (P.cA j)) (some dx) σ (upd (del H3 a) dx (.xd fs))) fun _ _ _ => False) := fun {d g2 Z2} R2 r2 p2 => by
    intro a ha
    cases e1 : iniD den d with
    | none => simp only [e1] at p2; exact p2.elim
    | some d' =>
      simp only [e1] at p2
      have za := R2.zn ha
      refine ⟨a, v, d, Z2, d', rfl, hK ▸ T, hno, upd_same, za, same_out R2.sub za, r2, e1, fun y' H' Z' dx L ry hx na => ⟨rfl, dx, _, upd_same, by rw [upd_ne na, upd_same], ?_, ?_⟩⟩
      · cases e2 : H1 dx with
        | none => rfl
        | some o =>
          have := L.fr dx o (by rw [upd_ne na]; exact e2) (fun z => nomatch z)
          rw [hx] at this; cases this
      · -- the heap at the end
        have zx : Z' dx = none := by
          cases e2 : Z' dx with
          | none => rfl
          | some o => have := L.sub dx o e2; rw [hx] at this; cases this
        have za' : Z' a = none := by rw [L.zf a _ upd_same]; exact za
        have fin_at : ∀ b, b ≠ a → b ≠ dx → (upd (del (upd (upd H' dx (exd dx [(f, y')])) a (exo a (P.cA j) (some dx))) a) dx (.xd [(f, y')])) b = H' b := fun b h1 h2 => by
          rw [upd_ne h2, del_ne h1, upd_ne h1, upd_ne h2]
        have L2' : Left P.K H1 Z2 none none (upd (del (upd (upd H' dx (exd dx [(f, y')])) a (exo a (P.cA j) (some dx))) a) dx (.xd [(f, y')])) (upd Z' dx (.xd [(f, y')])) := by
          refine ⟨L.sz.trans (same_new zx), fun b o eb => ?_, fun b o eb => ?_, fun b o eb _ => ?_, fun b z => nomatch z⟩
          · by_cases hb : b = dx
            · subst hb; rw [upd_same] at eb ⊢; exact eb
            · rw [upd_ne hb] at eb
              have hba : b ≠ a := fun z => by rw [z, za'] at eb; cases eb
              rw [fin_at b hba hb]; exact L.sub b o eb
          · have hba : b ≠ a := fun z => by rw [z, ha] at eb; cases eb
            have hbx : b ≠ dx := fun z => by
              have := L.fr b o (by rw [upd_ne hba]; exact eb) (fun z => nomatch z)
              rw [z, hx] at this; cases this
            rw [upd_ne hbx]; exact L.zf b o (by rw [upd_ne hba]; exact eb)
          · have hba : b ≠ a := fun z => by rw [z, ha] at eb; cases eb
            have hf := L.fr b o (by rw [upd_ne hba]; exact eb) (fun z => nomatch z)
            have hbx : b ≠ dx := fun z => by rw [z, hx] at hf; cases hf
            rw [fin_at b hba hbx]; exact hf
        exact p2 dx y' σ _ _ upd_same (dpM (same_new zx) ry) (R2.left L2')
  have go : ∀ {d : D} {g2 : List Sl} {Z2 : Hp}, Rel P c g2 σ H1 Z2 → Dq P.K Z2 v d → Post (fun fl g' => FlP P c Dd Z g' fl) (exS P c W) ((fun g => match iniD den d with
      | some d' => Res.exn j f d' g
      | none => .stuck) g2) → _ := fun {d g2 Z2} R2 r2 p2 => (⟨(by simp : [v].length ≤ 1000), fin R2 r2 p2⟩ : [v].length ≤ 1000 ∧ _)
  cases ev with
  | fro d => exact go R1 vr p1
  | own ds =>
    obtain ⟨b, vs, rfl, h1, h2, h3, r, n⟩ := vr
    exact go (R1.frz h1 h3 h2 n) (.lst upd_same (dpAM (same_new h2) r)) p1
  | var i =>
    obtain ⟨d, g3, Z2, s2, R2, r2, p2⟩ := esc_ok R1 (ev := .var i) vr (post_bnd.mp p1)
    exact go R2 r2 p2
end Mw
namespace Mw
open PySem L2

/-! ## tests: is None -/
section
variable {X : Cx} {P : Pa} {W : WX} {e a b : Expr} {pos pos' : Pos}
theorem mt_tB {da : SM EV} {t : TE} (h : PT X e (tB t)) (w : ∀ σ H Q, TEo P W da σ H Q → t σ H Q) : PT X e (TTo P W (tstE da)) :=
  ptW h fun σ H Q ⟨c, g, Z, R, p⟩ => w σ H _ (tst_on (k := fun b => ret b) R (post_bnd.mpr (post_mono p (fun _ _ q => q) fun _ _ _ _ q => q)) fun k g1 H1 Z1 s1 R1 p1 => ⟨k, rfl, (show ∀ H' Z', Same Z Z' → Rel P c g1 σ H' Z' → Q k H' from p1) H1 Z1 s1 R1⟩)
theorem w_isN {da : SM EV} : ∀ σ H Q, TEo P W (op1 isNF da) σ H Q → tIsN (TEo P W da) σ H Q := fun σ H Q ⟨c, g, Z, R, p⟩ => TEo.on R p fun x g1 v H1 Z1 s1 R1 vx p1 =>
  app1_ok (r := fun x H Q => Q (.bl (decide (x = .non))) H) (fun H Z x d o Q s h e q => by cases e; rw [rr_non h]; exact q _ (.bl _)) R1 vx p1 fun o q => out_fin R1 s1 q
theorem w_noN {da : SM EV} : ∀ σ H Q, TEo P W (op1 noNF da) σ H Q → tNotN (TEo P W da) σ H Q := fun σ H Q ⟨c, g, Z, R, p⟩ => TEo.on R p fun x g1 v H1 Z1 s1 R1 vx p1 =>
  app1_ok (r := fun x H Q => Q (.bl (!decide (x = .non))) H) (fun H Z x d o Q s h e q => by cases e; rw [rr_non h]; exact q _ (.bl _)) R1 vx p1 fun o q => out_fin R1 s1 q
theorem mt_isN {j} {da : SM EV} (ha : PE X a (TEo P W da)) : PT X (.Compare a [.Is] [.Constant .none j pos'] pos) (TTo P W (tstE (op1 isNF da))) := mt_tB (pt_cmp (pc_isN ha)) w_isN
theorem mt_noN {j} {da : SM EV} (ha : PE X a (TEo P W da)) : PT X (.Compare a [.IsNot] [.Constant .none j pos'] pos) (TTo P W (tstE (op1 noNF da))) := mt_tB (pt_cmp (pc_notN ha)) w_noN

/-! ## a, b = e -/
def asgT (t : Tg) (da : SM EV) : SM Fl := bnd da fun ev => bnd (esc (frz ev)) fun d => bnd (t.put d) fun _ => ret .nx
end

/-! ## the script -/
def vrS (i : Nat) : SM EV := fun g => match g[i]? with
  | some (.scr _) => .ok (.var i, g)
  | _ => .stuck
def scrE (i n : Nat) : SM EV := fun g => match g[i]? with
  | some (.scr ns) => .ok (.own ((ns.take n).map PyData.int), g)
  | _ => .stuck
section
variable {X : Cx} {P : Pa} {W : WX} {pos : Pos}
theorem me_varS {i : Nat} {x : Str} (h : PE X (.Name x pos) (tVar i)) : PE X (.Name x pos) (TEo P W (vrS i)) := peW h fun σ H Q ⟨c, g, Z, R, p⟩ => by
  unfold vrS at p
  cases es : g[i]? with
  | none => rw [es] at p; exact p.elim
  | some s =>
    rw [es] at p
    cases s with
    | scr ns => obtain ⟨a, e1, r⟩ := R.sl i _ es; exact ⟨_, e1, p _ H Z (Same.refl _) R e1⟩
    | un => exact p.elim
    | exc k f p' => exact p.elim
    | own ds => exact p.elim
    | bor ds => exact p.elim
    | fro d => exact p.elim
theorem cut_n (xs : List V) (n : Nat) : cutV xs none (some (n : Int)) = xs.take n := by
  unfold cutV
  rw [HT.sIx_none, show HT.sIx xs.length xs.length (some (n : Int)) = min n xs.length from HT.sIx_nat xs.length xs.length n, List.drop_zero, Nat.sub_zero]
  by_cases h : n ≤ xs.length
  · rw [Nat.min_eq_left h]
  · rw [Nat.min_eq_right (by omega), List.take_of_length_le (Nat.le_refl _), List.take_of_length_le (by omega)]
theorem me_scr {i n : Nat} {x : Str} {p2 p3 p4 : Pos} {j : Nat} (hK : P.K = X.K) (h : PE X (.Name x p4) (tVar i)) : PE X (.Subscript (.Name x p4) (.Slice none (some (.Constant (.int (n : Nat)) j p3)) none p2) pos) (TEo P W (scrE i n)) :=
  peW (pe_slice sl_list h po_none (po_some pe_int)) fun σ H Q ⟨c, g, Z, R, p⟩ => by
    unfold scrE at p
    cases es : g[i]? with
    | none => rw [es] at p; exact p.elim
    | some s =>
      rw [es] at p
      cases s with
      | un => exact p.elim
      | exc k f p' => exact p.elim
      | own ds => exact p.elim
      | bor ds => exact p.elim
      | fro d => exact p.elim
      | scr ns =>
        obtain ⟨a, e1, r⟩ := R.sl i _ es
        refine ⟨_, e1, ⟨_, rfl, a, _, rfl, hK ▸ R.sub.seq r, fun q hq => ?_⟩⟩
        have p : ∀ v H' Z', Same Z Z' → Rel P c g σ H' Z' → VR P c g σ H' Z' v (.own ((ns.take n).map PyData.int)) → Q v H' := p
        refine p _ _ Z (Same.refl _) (R.newH hq) ⟨q, _, rfl, upd_same, R.zn hq, R.dom hq, ?_, fun k hk ek => ?_⟩
        · rw [show ((n : Nat) : Int) = ((n : Nat) : Int) from rfl, cut_n, ← List.map_take]; exact dpA_of_ints _
        · cases e2 : g[k]? with
          | none => rw [e2] at hk; cases hk
          | some t =>
            rw [e2] at hk
            cases t with
            | own ds => obtain ⟨b, vs, e3, h1, _⟩ := R.sl k _ e2; rw [ek] at e3; cases e3; rw [hq] at h1; cases h1
            | un => cases hk
            | fro _ => cases hk
            | bor _ => cases hk
            | exc _ _ _ => cases hk
            | scr _ => cases hk
end

/-! ## defs, told -/
structure Df (P : Program) (w : World) (K : PySem.W.Frag) (mg : Str → Option Value) (base : Heap) (cA : Nat → Addr) (x : Str) (n k : Nat) (F : Fd) : Prop where
  ex : ∃ (f : Addr) (fd : FuncData) (ps : List Str), FnOk P w K mg base (L2.CX P w) k f fd ps (SpD K cA n F) ∧ mg x = some (.ref f) ∧ PySem.W.keepIn K (.ref f) = true ∧ Binds K fd ps []
  len : ∀ as : List Sl, as.length ≠ n → F as = .stuck
section
variable {X : Cx} {P : Pa} {W : WX} {e : Expr} {es : List Expr} {pos p0 : Pos} {x : Str} {k n : Nat} {F : Fd}
theorem me_callD {da : SM (List EV)} (D : Df X.prog X.w X.K X.mg X.base P.cA x n k F) (hK : X.K = P.K) (hr : Room k X.A) (hg : Gl X x) (tk : Takes X W)
    (ha : PA X (e :: es) (TAo P W da)) (hdb : (x == ("__debug__" : Str)) = false := by decide) (he : starEach (e :: es) X.env = (false, eval e X.env) :: starEach es X.env := by rfl) (hpl : (backTo pos (starEach es X.env)).any (·.1) = false := by rfl) :
    PE X (.Call (.Name x p0) (e :: es) [] pos) (TEo P W (callE F da)) := by
  obtain ⟨f, fd, ps, G, hm, hk, hb⟩ := D.ex
  rw [hK] at G
  exact me_call (by rw [hK]; exact G) D.len hr hg hm hk hb tk ha hdb he hpl
theorem me_callBD {da : SM (List EV)} (D : Df X.prog X.w X.K X.mg X.base P.cA x n k F) (hK : X.K = P.K) (hr : Room k X.A) (hg : Gl X x) (tk : Takes X W)
    (ha : PA X (e :: es) (TAo P W da)) (hdb : (x == ("__debug__" : Str)) = false := by decide) (he : starEach (e :: es) X.env = (false, eval e X.env) :: starEach es X.env := by rfl) (hpl : (backTo pos (starEach es X.env)).any (·.1) = false := by rfl) :
    PE X (.Call (.Name x p0) (e :: es) [] pos) (TEo P W (callB F da)) := by
  obtain ⟨f, fd, ps, G, hm, hk, hb⟩ := D.ex
  rw [hK] at G
  exact me_callB' (by rw [hK]; exact G) D.len hr hg hm hk hb tk ha hdb he hpl
end

/-! ## sum, max, min of a tuple of ints -/
section
variable {prog : Program} {w : World} {A : Around} {E : Value → Shared → Prop} {s : Shared} {l : Addr}
theorem iter_tupA {items : Array Value} {Q : Value → Shared → Prop} (hl : s.heap.IsTuple l items)
    (h : ∀ s₂ : Shared, s₂ = { s with heap := s.heap.push { cls := .type "tuple_iterator", data := .fields #[.ref l, .int 0 0] } } →
      (s₂.heap.IsTupleIter s.heap.objs.size l 0 ∧ s₂.heap.IsTuple l items) → (∀ b ∈ [s.heap.objs.size, l], b < s₂.heap.objs.size) → l ≠ s.heap.objs.size → Q (.ref s.heap.objs.size) s₂) :
    wpAny (model prog w) A (pyIter (.ref l)) Q E s := by
  have hlt : l < s.heap.objs.size := by obtain ⟨_, e, _⟩ := hl; exact Heap.lt_size e
  refine wpAny_pyIter_tuple hl (h _ rfl ⟨⟨_, Heap.get?_push_size _ rfl, rfl, rfl⟩, hl.push _⟩ (fun b hb => ?_) (Nat.ne_of_lt hlt))
  show b < (s.heap.push _).objs.size
  rw [Heap.size_push]
  rcases List.mem_cons.mp hb with rfl | hb
  · exact Nat.lt_succ_self _
  · rcases List.mem_cons.mp hb with rfl | hb
    · exact Nat.lt_succ_of_lt hlt
    · cases hb
theorem old_keptT {h' : Heap} (hk : ∀ b o, b ∉ [s.heap.objs.size] → (s.heap.push { cls := .type "tuple_iterator", data := .fields #[.ref l, .int 0 0] }).get? b = some o → h'.get? b = some o) :
    ∀ b o, s.heap.get? b = some o → h'.get? b = some o := fun b o e => by
  refine hk b o (fun hm => ?_) (Heap.get?_push_of_some _ e)
  rcases List.mem_cons.mp hm with e1 | hm
  · exact absurd (e1 ▸ Heap.lt_size e) (Nat.lt_irrefl _)
  · cases hm
end
def rSumT (K : PySem.W.Frag) : List V → Hp → VK → Prop := fun vs H Q => ∃ (a : Addr) (ns : List Int), vs = [V.ref a] ∧ SqT K H a (ns.map V.int) ∧ Q (.int ns.sum) H
def rMaxT (K : PySem.W.Frag) : List V → Hp → VK → Prop := fun vs H Q => ∃ (a : Addr) (ns : List Int), vs = [V.ref a] ∧ SqT K H a (ns.map V.int) ∧ 0 < ns.length ∧ ∀ m, m ∈ ns → (∀ y, y ∈ ns → y ≤ m) → Q (.int m) H
def rMinT (K : PySem.W.Frag) : List V → Hp → VK → Prop := fun vs H Q => ∃ (a : Addr) (ns : List Int), vs = [V.ref a] ∧ SqT K H a (ns.map V.int) ∧ 0 < ns.length ∧ ∀ m, m ∈ ns → (∀ y, y ∈ ns → m ≤ y) → Q (.int m) H
section
variable {X : Cx}
open PySem.Spec PyProof.Rows
theorem nums_of {ns : List Int} {its : List Value} (hi : IntsAre its ns) : ∃ xs, its.toArray = intItems xs ∧ (xs.map (·.1)).toList = ns := by
  obtain ⟨xs, e⟩ := hi.allInts.items
  have hn : numsOf (intItems xs).toList = ns := by rw [← e]; exact hi.numsOf
  rw [nums_intItems] at hn
  exact ⟨xs, e, by simpa using hn⟩
theorem cr_sumT (hc : X.calm = true) : CallR X (.builtin "sum") (rSumT X.K) := by
  intro pins s σ H vs us Q I r h
  obtain ⟨a, ns, rfl, hs, q⟩ := h
  obtain ⟨its, rv, hl, _⟩ := I.tuple hs
  rw [Vals.ref1 r]
  obtain ⟨xs, e⟩ := rv.ints.allInts.items
  have hn : numsOf (intItems xs).toList = ns := by rw [← e]; exact rv.ints.numsOf
  rw [nums_intItems] at hn
  rw [e] at hl
  have hl' : s.heap.IsTuple a (intItems xs) := hl
  refine call_sum_walkG (iter_tupA hl' fun s₂ e st hfp hlI => ?_)
  subst e
  refine ⟨_, _, _, _, _, _, numAt xs, rfl, Walks.tuple (A := X.A.in1) (I.ok.hd hc) _ a hlI (intItems xs), st, hfp, (fun _ _ => intItems_at), fun h' tk t' hk => ?_⟩
  refine ⟨.int _, H, I.kept (old_keptT hk), ⟨t', ?_⟩, q⟩
  rw [preSum_eq, List.take_of_length_le (by simp [intItems]), hn]
theorem cr_maxT (hc : X.calm = true) : CallR X (.builtin "max") (rMaxT X.K) := by
  intro pins s σ H vs us Q I r h
  obtain ⟨a, ns, rfl, hs, hne, q⟩ := h
  obtain ⟨its, rv, hl, _⟩ := I.tuple hs
  rw [Vals.ref1 r]
  obtain ⟨xs, e⟩ := rv.ints.allInts.items
  have hn : numsOf (intItems xs).toList = ns := by rw [← e]; exact rv.ints.numsOf
  rw [nums_intItems] at hn
  subst hn
  rw [e] at hl
  have hl' : s.heap.IsTuple a (intItems xs) := hl
  have hsz : 0 < xs.size := by simpa using hne
  refine call_max_walk (iter_tupA hl' fun s₂ e st hfp hlI => ?_)
  subst e
  refine ⟨_, _, _, _, _, _, _, rfl, Walks.tuple (A := X.A.in1) (I.ok.hd hc) _ a hlI (intItems xs), st, hfp, by simpa [intItems] using hsz, CmpOf.ints_gt (numAt xs) (fun _ _ => intItems_at), fun v h' tk hP hk => ?_⟩
  have hv : (intItems xs)[argBest (fun i j => decide (numAt xs i > numAt xs j)) (xs.size - 1)]? = some v := by simpa [intItems] using hP
  obtain ⟨t, rfl⟩ := intItems_at hv
  obtain ⟨h1, h2⟩ := argBest_gt (numAt xs) (xs.size - 1)
  refine ⟨.int _, H, I.kept (old_keptT hk), ⟨t, rfl⟩, q _ ?_ fun y hy => ?_⟩
  · rw [numAt_eq]; exact PySem.getD_mem (by rw [List.length_map, Array.length_toList]; omega)
  · obtain ⟨j, hj, rfl⟩ := mem_getD hy
    rw [List.length_map, Array.length_toList] at hj
    rw [← numAt_eq]; exact h2 j (by omega)
theorem cr_minT (hc : X.calm = true) : CallR X (.builtin "min") (rMinT X.K) := by
  intro pins s σ H vs us Q I r h
  obtain ⟨a, ns, rfl, hs, hne, q⟩ := h
  obtain ⟨its, rv, hl, _⟩ := I.tuple hs
  rw [Vals.ref1 r]
  obtain ⟨xs, e⟩ := rv.ints.allInts.items
  have hn : numsOf (intItems xs).toList = ns := by rw [← e]; exact rv.ints.numsOf
  rw [nums_intItems] at hn
  subst hn
  rw [e] at hl
  have hl' : s.heap.IsTuple a (intItems xs) := hl
  have hsz : 0 < xs.size := by simpa using hne
  refine call_min_walk (iter_tupA hl' fun s₂ e st hfp hlI => ?_)
  subst e
  refine ⟨_, _, _, _, _, _, _, rfl, Walks.tuple (A := X.A.in1) (I.ok.hd hc) _ a hlI (intItems xs), st, hfp, by simpa [intItems] using hsz, CmpOf.ints_lt (numAt xs) (fun _ _ => intItems_at), fun v h' tk hP hk => ?_⟩
  have hv : (intItems xs)[argBest (fun i j => decide (numAt xs i < numAt xs j)) (xs.size - 1)]? = some v := by simpa [intItems] using hP
  obtain ⟨t, rfl⟩ := intItems_at hv
  obtain ⟨h1, h2⟩ := argBest_lt (numAt xs) (xs.size - 1)
  refine ⟨.int _, H, I.kept (old_keptT hk), ⟨t, rfl⟩, q _ ?_ fun y hy => ?_⟩
  · rw [numAt_eq]; exact PySem.getD_mem (by rw [List.length_map, Array.length_toList]; omega)
  · obtain ⟨j, hj, rfl⟩ := mem_getD hy
    rw [List.length_map, Array.length_toList] at hj
    rw [← numAt_eq]; exact h2 j (by omega)
end
end Mw
namespace Mw
open PySem L2
section
variable {X : Cx} {P : Pa} {W : WX} {e tg : Expr} {pos : Pos}
theorem ms_asgT {t : Tg} {da : SM EV} (he : PE X e (TEo P W da)) (hg : PG X tg (TGo P t)) (hs : swapsWithSole [tg] e pos.line X.env = pure false := by rfl) (hw : swappedStores [tg] e X.env = pure none := by rfl) (h1 : (assignEach [tg] X.env).map (·.2) = [assign tg X.env] := by rfl) : PS X (.Assign [tg] e pos) (TSo P W (asgT t da)) :=
  psW (ps_asg he hg hs hw h1) fun Dd σ H ⟨c, g, Z, R, p⟩ => TEo.onS R p fun ev g1 v H1 Z1 s1 R1 vr p1 => by
    obtain ⟨Z1', s1', R1', vp⟩ := vr.frz R1
    obtain ⟨d, g2, Z2, s2, R2, r2, p2⟩ := esc_ok R1' vp (post_bnd.mp p1)
    refine ⟨c, g2, Z2, d, R2, r2, put_post (ex := exS P c W) (post_mono (post_bnd.mp p2) (fun _ g3 q3 vs R3 => ?_) fun _ _ _ _ q => q)⟩
    exact (show ∀ σ' H' Z', Same Z Z' → Rel P c g3 σ' H' Z' → Dd.nx σ' H' from q3) _ _ _ ((s1.trans s1').trans s2) R3
end
/-- sum, max, min, of a list or a tuple -/
def seqF (f : List D → Option Out) : List D → Option Out
  | [.list es] => f [.list es]
  | [.tuple es] => f [.list es]
  | _ => none
section
variable {K : PySem.W.Frag}
theorem tints {H Z : Hp} {xs : List V} {ds : List D} {ns : List Int} (s : Same Z H) (h : RrL K H Z xs [.tuple ds]) (e : intsOf ds = some ns) : ∃ a, xs = [.ref a] ∧ SqT K H a (ns.map V.int) := by
  obtain ⟨v, rfl, r⟩ := one_inv h
  obtain ⟨a, vs, rfl, h1, r1⟩ := r.tup s
  rw [intsOf_map e] at r1
  exact ⟨a, rfl, by rw [← dpA_ints r1]; exact h1⟩
theorem s_sumA : SoundN K (fun xs H Q => rSum K xs H Q ∨ rSumT K xs H Q) (seqF sumF) := by
  intro H Z xs ds o Q s h e q
  unfold seqF at e
  split at e
  · exact .inl (s_sum H Z xs _ o Q s h e q)
  · rename_i es
    unfold sumF at e
    simp only at e
    cases e1 : intsOf es with
    | none => rw [e1] at e; cases e
    | some ns => rw [e1] at e; cases e; obtain ⟨a, rfl, h1⟩ := tints s h e1; exact .inr ⟨a, ns, rfl, h1, q _ (.int _)⟩
  · cases e
theorem s_maxA : SoundN K (fun xs H Q => rMax K xs H Q ∨ rMaxT K xs H Q) (seqF maxLF) := by
  intro H Z xs ds o Q s h e q
  unfold seqF at e
  split at e
  · exact .inl (s_maxL H Z xs _ o Q s h e q)
  · rename_i es
    unfold maxLF at e
    simp only at e
    cases e1 : intsOf es with
    | none => rw [e1] at e; cases e
    | some ns =>
      rw [e1] at e
      obtain ⟨hb, e⟩ := gd_some e; cases e
      obtain ⟨a, rfl, h1⟩ := tints s h e1
      cases ns with
      | nil => cases hb
      | cons x r =>
        refine .inr ⟨a, _, rfl, h1, Nat.zero_lt_succ _, fun m hm hle => ?_⟩
        obtain ⟨k1, k2⟩ := foldmax r x
        have : m = maxL (x :: r) := Int.le_antisymm (k2 m hm) (hle _ k1)
        rw [this]; exact q _ (.int _)
  · cases e
theorem s_minA : SoundN K (fun xs H Q => rMin K xs H Q ∨ rMinT K xs H Q) (seqF minLF) := by
  intro H Z xs ds o Q s h e q
  unfold seqF at e
  split at e
  · exact .inl (s_minL H Z xs _ o Q s h e q)
  · rename_i es
    unfold minLF at e
    simp only at e
    cases e1 : intsOf es with
    | none => rw [e1] at e; cases e
    | some ns =>
      rw [e1] at e
      obtain ⟨hb, e⟩ := gd_some e; cases e
      obtain ⟨a, rfl, h1⟩ := tints s h e1
      cases ns with
      | nil => cases hb
      | cons x r =>
        refine .inr ⟨a, _, rfl, h1, Nat.zero_lt_succ _, fun m hm hle => ?_⟩
        obtain ⟨k1, k2⟩ := foldmin r x
        have : m = minL (x :: r) := Int.le_antisymm (hle _ k1) (k2 m hm)
        rw [this]; exact q _ (.int _)
  · cases e
end
section
variable {X : Cx}
theorem c_sumA (hc : X.calm = true) : CallR X (.builtin "sum") (fun xs H Q => rSum X.K xs H Q ∨ rSumT X.K xs H Q) := CallR.or (cr_sum hc) (cr_sumT hc)
theorem c_maxA (hc : X.calm = true) : CallR X (.builtin "max") (fun xs H Q => rMax X.K xs H Q ∨ rMaxT X.K xs H Q) := CallR.or (cr_max hc) (cr_maxT hc)
theorem c_minA (hc : X.calm = true) : CallR X (.builtin "min") (fun xs H Q => rMin X.K xs H Q ∨ rMinT X.K xs H Q) := CallR.or (cr_min hc) (cr_minT hc)
end
end Mw
namespace Mw
open PySem L2
theorem hu64 {k : Nat} {A : Around} (hr : Room k A) : A.units + 64 < cLine := by have := hr.un; omega
/-- a class of errors that is called -/
structure Rz (P : Program) (w : World) (K : PySem.W.Frag) (mg : Str → Option Value) (base : Heap) (cA : Nat → Addr) (x : Str) (j : Nat) (f : Str) (den : SM EV) (k : Nat) : Prop where
  ex : ∃ (fI : Addr) (fd : FuncData) (ps : List Str), OexC K (cA j) ∧ PySem.W.findIn K (.ref (cA j)) "__init__" = some (some (.ref fI)) ∧ PySem.W.typeIn K (.ref fI) = some (.type "function") ∧ PySem.W.findIn K (.ref (cA j)) f = some none ∧
    FnOk P w K mg base (L2.CX P w) k fI fd ps (SpI K (cA j) f den) ∧ Binds K fd ps []
  m : mg x = some (.ref (cA j))
theorem ms_raiseD {X : Cx} {P : Pa} {W : WX} {x f : Str} {k j : Nat} {den da : SM EV} {e : Expr} {p pos pos' : Pos} (R : Rz X.prog X.w X.K X.mg X.base P.cA x j f den k) (hK : X.K = P.K) (hr : Room (k + 1) X.A) (tk : Takes X W) (hc : X.calm = true) (hg : Gl X x) (ha : PE X e (TEo P W da))
    (hdb : (x == ("__debug__" : Str)) = false := by decide) (he : starEach (e :: []) X.env = (false, eval e X.env) :: starEach [] X.env := by rfl) (hpl : (backTo pos (starEach [] X.env)).any (·.1) = false := by rfl) :
    PS X (.Raise (some (.Call (.Name x p) [e] [] pos)) none pos') (TSo P W (raiseS j f (iniD den) da)) := by
  obtain ⟨fI, fd, ps, T, iC, tI, hno, F1, hb⟩ := R.ex
  exact ms_raise T hK iC tI (hK ▸ hno) (hK ▸ F1) hr hb tk hc hg R.m ha hdb he hpl
theorem ms_set {X : Cx} {P : Pa} {W : WX} {i : Nat} {x : Str} {e : Expr} {da : SM EV} {pos' pos : Pos} (hN : X.N.Nodup) (hi : X.N[i]? = some x) (hx : Loc X.env.scope x) (he : PE X e (TEo P W da)) (hs : swapsWith e (some (.Name x pos')) pos.line X.env = pure false := by rfl) (hf : X.fn x = true ∨ X.env.scope.names.lookup x = some .local := by first | exact .inl rfl | exact .inr rfl | assumption) :
    PS X (.Assign [.Name x pos'] e pos) (TSo P W (asgS i da)) := ms_asg (ps_set hN hi hx he hs hf) fun _ _ _ h => h
/-- the written part holds a def -/
def DefAt (K : PySem.W.Frag) (x qual : Str) (st : Stmt) (f : Addr) : Prop := ∃ (oc : Value) (od : Option Addr) (kV doc pm : Value) (an : Option Addr) (cdv ct : Value) (osl : Array (Option Value)),
  K.lookup f = some ⟨oc, od, .func (PySem.W.fnOf x qual (defArgs st) (defBody st) (defScope st) .none kV doc pm an cdv ct), osl⟩ ∧ PySem.W.codeIn K cdv qual = true ∧ PySem.W.keepIn K (.ref f) = true
theorem DefAt.fn {K : PySem.W.Frag} {x qual : Str} {st : Stmt} {f : Addr} (D : DefAt K x qual st f) : ∃ fd, L2.Fun K x qual st f fd := by
  obtain ⟨oc, od, kV, doc, pm, an, cdv, ct, osl, l, c, k⟩ := D
  exact ⟨_, fun_mk l c k⟩
/-- a class's own method -/
def meth (st : Stmt) (i : Nat) : Stmt := match st with
  | .ClassDef _ _ _ b _ _ _ _ _ _ _ => b.getD i (.Pass ⟨0, 0, 0, 0⟩)
  | _ => .Pass ⟨0, 0, 0, 0⟩
/-- how a def of so many parameters binds them -/
def Bnd (st : Stmt) (x qual : Str) (ps : List Str) : Prop := ∀ (kV doc pm : Value) (an : Option Addr) (cdv ct : Value) (us : List Value), us.length = ps.length → bindArgs (PySem.W.fnOf x qual (defArgs st) (defBody st) (defScope st) .none kV doc pm an cdv ct) ⟨us, []⟩ = pure (ps.zip us)
theorem df_mk {P : Program} {w : World} {K : PySem.W.Frag} {mg : Str → Option Value} {base : Heap} {cA : Nat → Addr} {x : Str} {st : Stmt} {f : Addr} {n k : Nat} {F : Fd} {ps : List Str} (D : DefAt K x x st f) (B : Bnd st x x ps) (hm : mg x = some (.ref f)) (hl : ∀ as : List Sl, as.length ≠ n → F as = .stuck)
    (h : ∀ fd, L2.Fun K x x st f fd → FnOk P w K mg base (L2.CX P w) k f fd ps (SpD K cA n F)) : Df P w K mg base cA x n k F := by
  obtain ⟨fd, Fu⟩ := D.fn
  exact ⟨⟨f, fd, ps, h fd Fu, hm, Fu.kp, Fu.binds B⟩, hl⟩
theorem Df.is {P : Program} {w : World} {K : PySem.W.Frag} {mg : Str → Option Value} {base : Heap} {cA : Nat → Addr} {x : Str} {n k : Nat} {F : Fd} {f : Addr} (D : Df P w K mg base cA x n k F) (hm : mg x = some (.ref f)) :
    ∃ fd ps, FnOk P w K mg base (L2.CX P w) k f fd ps (SpD K cA n F) ∧ Binds K fd ps [] := by
  obtain ⟨f', fd, ps, G, hm', hk, hb⟩ := D.ex
  rw [hm] at hm'; cases hm'
  exact ⟨fd, ps, G, hb⟩
theorem df_none {P : Program} {w : World} {K : PySem.W.Frag} {mg : Str → Option Value} {base : Heap} {cA : Nat → Addr} {x : Str} {st : Stmt} {f : Addr} {n : Nat} {ps : List Str} (D : DefAt K x x st f) (B : Bnd st x x ps) (hm : mg x = some (.ref f)) : Df P w K mg base cA x n 0 fun _ => .stuck :=
  df_mk D B hm (fun _ _ => rfl) fun fd _ => fn_none n
/-- by depth, where a def calls itself -/
theorem df_rec {P : Program} {w : World} {K : PySem.W.Frag} {mg : Str → Option Value} {base : Heap} {cA : Nat → Addr} {x : Str} {st : Stmt} {f : Addr} {n : Nat} {F : Nat → Fd} {ps : List Str} (D : DefAt K x x st f) (B : Bnd st x x ps) (hm : mg x = some (.ref f)) (h0 : F 0 = fun _ => .stuck) (hl : ∀ m, ∀ as : List Sl, as.length ≠ n → F m as = .stuck)
    (h : ∀ m, Df P w K mg base cA x n m (F m) → ∀ fd, L2.Fun K x x st f fd → FnOk P w K mg base (L2.CX P w) (m + 1) f fd ps (SpD K cA n (F (m + 1)))) : ∀ m, Df P w K mg base cA x n m (F m)
  | 0 => by rw [h0]; exact df_none D B hm
  | m + 1 => df_mk D B hm (hl (m + 1)) (h m (df_rec D B hm h0 hl h m))
end Mw
namespace Mw
open PySem L2
section
variable {K : PySem.W.Frag} {t : Value} {C : Addr} {b : Bool}
theorem kc_ref (h1 : PySem.W.isClsIn K C = true) (h2 : PySem.W.typeIn K (.ref C) = some (.type "type")) (h : PySem.W.subIn K t (.ref C) = some b) : PySem.W.kitCls K t (.ref C) = some b := by
  have e : ((PySem.W.clsIn K C).isSome && PySem.W.typeIn K (.ref C) == some (.type "type")) = true := by
    have h1' : (PySem.W.clsIn K C).isSome = true := h1
    rw [h1', h2] <;> rfl
  show (if ((PySem.W.clsIn K C).isSome && PySem.W.typeIn K (.ref C) == some (.type "type")) = true then PySem.W.subIn K t (.ref C) else none) = some b
  rw [if_pos e]; exact h
theorem kc_ve (h : PySem.W.subIn K t (.type "ValueError") = some b) : PySem.W.kitCls K t (.type "ValueError") = some b := by
  show (if PySem.W.kitMeta "ValueError" = true then PySem.W.subIn K t (.type "ValueError") else none) = some b
  rw [if_pos (by decide +kernel)]; exact h
theorem kit_ne {c : Value} (hn : (t == c) = false) (h : PySem.W.kitCls K t c = some b) : PySem.W.kitOne K t c = some b := by
  unfold PySem.W.kitOne
  rw [hn, if_neg Bool.false_ne_true]; exact h
theorem kit_eq : PySem.W.kitOne K (.ref C) (.ref C) = some true := by
  unfold PySem.W.kitOne
  rw [if_pos (by simp)]
theorem exm_of {c : Value} (hb : PySem.W.subIn K c (.type "BaseException") = some true) (h : PySem.W.kitCls K t c = some b) : PySem.W.exmOne K t c = some b := by
  have e : (PySem.W.subIn K c (.type "BaseException") == some true) = true := by rw [hb] <;> rfl
  unfold PySem.W.exmOne
  rw [if_pos e]; exact h
end
end Mw
namespace Mw
open PySem L2 PySem.Spec PyProof.Rows HT

/-! ## t[::-1] of a tuple -/
section
variable {prog : Program} {w : World} {A : Around} {E : Value → Shared → Prop} {s : Shared}
theorem applied_rev {sl : Addr} {vl vu vs : Value} {n : Nat} {Q : Int × Int × Nat → Shared → Prop} (hs : s.heap.IsSliceOf sl vl vu vs) (pl : IsPart vl none) (pu : IsPart vu none) (ps : IsPart vs (some (-1)))
    (h : Q ((n : Int) - 1, -1, n) s) : wpAny (model prog w) A (Builtin.Slice.sliceApplied (.ref sl) (pure (n : Int))) Q E s := by
  obtain ⟨os, hos, hcs, hds⟩ := id hs
  unfold Builtin.Slice.sliceApplied Builtin.Slice.sliceFields
  refine wpAny_bind (wpAny_bind (wpAny_field hos hds (x := vl) rfl (wpAny_bind (wpAny_field hos hds (x := vu) rfl (wpAny_bind (wpAny_field hos hds (x := vs) rfl (wpAny_pure ?_)))))))
  refine wpAny_bind (slicePart_ ps ?_)
  show wpAny _ _ (if ((-1 : Int) == 0) = true then _ else _) _ _ s
  rw [if_neg (by decide)]
  refine wpAny_bind (slicePart_ pl (wpAny_bind (slicePart_ pu (wpAny_bind (wpAny_pure ?_)))))
  have e : Builtin.Slice.slicePlaces ((n : Int) - 1) (-1) (-1) = n := by
    unfold Builtin.Slice.slicePlaces
    rw [if_neg (by decide)]
    by_cases h : (n : Int) - 1 > -1
    · rw [if_pos h, show (-(-1 : Int)) = 1 by decide, Int.ediv_one]; omega
    · rw [if_neg h]; omega
  show wpAny _ _ (pure ((n : Int) - 1, (-1 : Int), Builtin.Slice.slicePlaces ((n : Int) - 1) (-1) (-1))) _ _ s
  rw [e]
  exact wpAny_pure h
theorem fm_congr {α β : Type} {f g : α → Option β} : ∀ {l : List α}, (∀ x ∈ l, f x = g x) → l.filterMap f = l.filterMap g
  | [], _ => rfl
  | x :: l, h => by
    rw [List.filterMap_cons, List.filterMap_cons, h x List.mem_cons_self, fm_congr fun y hy => h y (List.mem_cons_of_mem _ hy)]
theorem pick_rev (xs : Array Value) : ((List.range xs.size).filterMap fun (k : Nat) => xs[((xs.size : Int) - 1 + (k : Int) * -1).toNat]?).toArray = xs.toList.reverse.toArray := by
  have e : (List.range xs.size).filterMap (fun (k : Nat) => xs[((xs.size : Int) - 1 + (k : Int) * -1).toNat]?) = ((List.range xs.size).map fun k => xs.size - 1 - k).filterMap (xs[·]?) := by
    rw [List.filterMap_map]
    refine fm_congr fun k hk => ?_
    have hk := List.mem_range.mp hk
    have : ((xs.size : Int) - 1 + (k : Int) * -1).toNat = xs.size - 1 - k := by omega
    rw [this]; rfl
  rw [e, PySem.W.krv_range, List.filterMap_reverse, PySem.W.krv_all]
theorem getItem_tuple_rev {t sl : Addr} {items : Array Value} {vl vu vs : Value} {Q : Value → Shared → Prop} (ht : IsTup s.heap t items) (hs : s.heap.IsSliceOf sl vl vu vs) (pl : IsPart vl none) (pu : IsPart vu none) (ps : IsPart vs (some (-1)))
    (h : Q (.ref s.heap.objs.size) { s with heap := s.heap.push { cls := .type "tuple", data := .seq items.toList.reverse.toArray } })
    (hsz : items.size ≤ sizeLine) : wpAny (model prog w) A (getItem (.ref t) (.ref sl)) Q E s := by
  have htake : sizeOk (.seq items.toList.reverse.toArray) := by
    show items.toList.reverse.toArray.size ≤ sizeLine
    rw [List.size_toArray, List.length_reverse, Array.length_toList]; exact hsz
  obtain ⟨os, hos, hcs, hds⟩ := id hs
  have hTs : s.TypeIs (.ref sl) "slice" := ⟨os, hos, hcs⟩
  unfold getItem
  try with_reducible refine wpAny_holding ?_
  first | refine wpAny_bind (wpAny_pure ?_) | skip
  refine wpAny_bind (wpAny_sequenceKey ht.typeIs (by decide) ?_)
  refine wpAny_bind (wpAny_callSpecial?_slot (name := Str.ofString "__getitem__") ht.typeIs PyProof.Rows.slot_tuple_getitem
    (wpAny_call_entry PyProof.Rows.slot_tuple_getitem ht.typeIs entry_tuple_getitem ?_ (args_tuple_getitem _ _)))
  show wpAny _ _ (Builtin.Tuple.tupleItemsOf (.ref t) >>= _) _ _ s
  refine wpAny_bind (tupleItemsOf_ ht ?_)
  refine wpAny_bind (wpAny_typeOf hTs ?_)
  rw [if_pos (by decide)]
  refine wpAny_bind (applied_rev hs pl pu ps ?_)
  have hno : ¬ ((((items.size : Int) - 1) == 0 && (-1 : Int) == 1 && items.size == items.size) = true) := by
    intro q
    rw [Bool.and_eq_true, Bool.and_eq_true] at q
    exact absurd q.1.2 (by decide)
  show wpAny _ _ (if (((items.size : Int) - 1) == 0 && (-1 : Int) == 1 && items.size == items.size) = true then _ else _) _ _ s
  rw [if_neg hno, pick_rev]
  first
    | exact wpAny_bind (m := Builtin.Tuple.tupleExact _) (wpAny_newObj_type (wpAny_pure ⟨_, rfl, wpAny_pure h⟩) htake)
    | exact wpAny_bind (m := Builtin.Tuple.tupleExact _) (wpAny_newObj_type (wpAny_bind (wpAny_pure (wpAny_pure ⟨_, rfl, wpAny_pure h⟩))) htake)
    | exact wpAny_bind (wpAny_bind (m := Builtin.Tuple.tupleExact _) (wpAny_newObj_type (wpAny_pure (wpAny_pure ⟨_, rfl, wpAny_pure h⟩)) htake))
    | exact wpAny_bind (wpAny_bind (m := Builtin.Tuple.tupleExact _) (wpAny_newObj_type (wpAny_pure ⟨_, rfl, wpAny_pure h⟩) htake))
end
section
variable {X : Cx}
def tRevA (K : PySem.W.Frag) (te : TE) : TE := fun σ H Q => te σ H fun x H1 => ∃ a xs, x = .ref a ∧ ((SqL K H1 a xs ∧ ∀ p, H1 p = none → Q (.ref p) (upd H1 p (.lst xs.reverse))) ∨ (SqT K H1 a xs ∧ ∀ p, H1 p = none → Q (.ref p) (upd H1 p (.tup xs.reverse))))
theorem pe_revA {e : Expr} {te : TE} {k : Nat} {p1 p2 p3 pos : Pos} (he : PE X e te) : PE X (.Subscript e (.Slice none none (some (.UnaryOp .USub (.Constant (.int 1) k p1) p2)) p3) pos) (tRevA X.K te) := by
  refine ⟨fun pins s σ H Q I h => ?_⟩
  refine Subscript_ (thn (he.run pins s σ H _ I h) fun v s1 ⟨x, H1, I1, r1, q1⟩ => ?_)
  obtain ⟨a, xs, ex, q⟩ := q1
  subst ex
  cases r1
  have hst : PO X (some (.UnaryOp .USub (.Constant (.int 1) k p1) p2)) (tPart (tUn (rU fun i => .int (-i)) (tC (.int 1)))) := po_some (pe_un un_neg pe_int)
  refine wpAny_Slice (thn (po_none.run pins s1 σ H1 (fun o H2 => o = none ∧ H2 = H1) I1 ⟨rfl, rfl⟩) fun vl s2 ⟨l, H2, I2, pl, el, e2⟩ => ?_)
  subst el e2
  refine thn (po_none.run pins s2 σ H2 (fun o H3 => o = none ∧ H3 = H2) I2 ⟨rfl, rfl⟩) fun vu s3 ⟨u, H3, I3, pu, eu, e3⟩ => ?_
  subst eu e3
  refine thn (hst.run pins s3 σ H3 (fun o H4 => o = some (-1) ∧ H4 = H3) I3 ⟨1, rfl, -1, rfl, rfl, rfl⟩) fun vs s4 ⟨o, H4, I4, ps, eo, e4⟩ => ?_
  subst eo e4
  have I5 : Inv X pins σ H4 { s4 with heap := s4.heap.push { cls := .type "slice", data := .fields #[vl, vu, vs] } } := I4.kept (t' := s4.toks) fun b ob q => Heap.get?_push_of_some _ q
  show wpAny (model X.prog X.w) X.A (subscriptTail e (.Slice none none (some (.UnaryOp .USub (.Constant (.int 1) k p1) p2)) p3) (.ref a) (.ref s4.heap.objs.size)) (EP X pins σ Q) X.xe { s4 with heap := s4.heap.push { cls := .type "slice", data := .fields #[vl, vu, vs] } }
  rcases q with ⟨hx, q⟩ | ⟨hx, q⟩
  · obtain ⟨its, r, ht, hz⟩ := I5.list hx
    have hlen := r.length
    refine tail_any (ops := [.ref a, .ref s4.heap.objs.size]) ht.isList.typeIs (PySem.slot_list_getitem.lookup) ?_ (by with_unfolding_all rfl)
    refine wpAny_getItem_list_slice ht.isList (Heap.IsSliceOf.new _ vl vu vs) pl pu ps (by decide) ?_ (by rw [List.size_toArray]; omega)
    rw [PySem.W.krv_pick]
    refine ⟨.ref _, _, I5.laid (t' := s4.toks) (o := .lst xs.reverse) (fun b ob q => Heap.get?_push_of_some _ q) (Nat.le_refl _) ?_, rfl, q _ (I5.hok.fresh (Nat.le_refl _))⟩
    exact ⟨by rw [List.length_reverse]; exact hz, _, 0, r.reverse, Heap.get?_push_size _ rfl⟩
  · obtain ⟨its, r, ht, hz⟩ := I5.tuple hx
    have hlen := r.length
    refine tail_any (ops := [.ref a, .ref s4.heap.objs.size]) ht.typeIs (PyProof.Rows.slot_tuple_getitem.lookup) ?_ (by with_unfolding_all rfl)
    refine getItem_tuple_rev ht (Heap.IsSliceOf.new _ vl vu vs) pl pu ps ?_ (by rw [List.size_toArray]; omega)
    refine ⟨.ref _, _, I5.laid (t' := s4.toks) (o := .tup xs.reverse) (fun b ob q => Heap.get?_push_of_some _ q) (Nat.le_refl _) ?_, rfl, q _ (I5.hok.fresh (Nat.le_refl _))⟩
    exact ⟨by rw [List.length_reverse]; exact hz, _, r.reverse, IsTup.new _ _⟩
def revA : D → Option Out
  | .list ds => some (.lstN ds.reverse)
  | .tuple ds => some (.tupN ds.reverse)
  | _ => none
theorem me_revA {P : Pa} {W : WX} {a : Expr} {pos : Pos} {k : Nat} {p1 p2 p3 : Pos} {da : SM EV} (hK : X.K = P.K) (ha : PE X a (TEo P W da)) : PE X (.Subscript a (.Slice none none (some (.UnaryOp .USub (.Constant (.int 1) k p1) p2)) p3) pos) (TEo P W (op1 revA da)) :=
  peW (pe_revA ha) fun σ H Q ⟨c, g, Z, R, p⟩ => TEo.on R p fun x g1 v H1 Z1 s1 R1 vx p1 => by
    rw [hK]
    exact app1_ok (r := fun x H1 Q => ∃ a xs, x = .ref a ∧ ((SqL P.K H1 a xs ∧ ∀ p, H1 p = none → Q (.ref p) (upd H1 p (.lst xs.reverse))) ∨ (SqT P.K H1 a xs ∧ ∀ p, H1 p = none → Q (.ref p) (upd H1 p (.tup xs.reverse))))) (fun H Z x d o Q s h e q => by
      cases d with
      | list ds => cases e; obtain ⟨a, vs, rfl, h1, r1⟩ := h.lst s; exact ⟨a, vs, rfl, .inl ⟨SqL.of h1, fun p hp => q p _ hp (dpA_rev r1)⟩⟩
      | tuple ds => cases e; obtain ⟨a, vs, rfl, h1, r1⟩ := h.tup s; exact ⟨a, vs, rfl, .inr ⟨h1, fun p hp => q.2 p _ hp (dpA_rev r1)⟩⟩
      | _ => cases e) R1 vx p1 fun o q => out_fin R1 s1 q
end

/-! ## t * k of a tuple -/
theorem tuple_mul1 (l : Addr) (items : Array Value) (n : Nat) (dd : Option Addr) (sl : Array (Option Value)) (u : Tok) :
    Meets (Builtin.«tuple.__mul__» ⟨[.ref l, .int 1 u], []⟩) (fun _ R s => s.heap.get? l = some { cls := .type "tuple", dict := dd, data := .seq items n, slots := sl } ∧
      R (.ok (.ret (Value.ref l))) s) :=
  .of_wp fun prog w A R s h => by
    obtain ⟨hp, g, d, tk, os⟩ := s
    obtain ⟨hl, h⟩ := h
    have f1 := AutoSeq1.idx_int
    wp_walk using wpAny_loadPart' hl
    exact ⟨_, rfl, h⟩
def rRep1 (K : PySem.W.Frag) : R2 := fun x y H Q => ∃ l xs, x = .ref l ∧ y = .int 1 ∧ SqT K H l xs ∧ Q (.ref l) H
theorem op_rep1 {X : Cx} : OpR X (binaryOp .Mult) (rRep1 X.K) := by
  intro pins s σ H x y v u Q I rx ry h
  obtain ⟨l, xs, rfl, rfl, hT, q⟩ := h
  cases rx
  obtain ⟨t, rfl⟩ := ry
  obtain ⟨its, r, ⟨⟨cls, dd, data, sl⟩, ho, hc, n, hd⟩, hs⟩ := I.tuple hT
  simp only at hc hd
  subst hc hd
  refine wpAny_binaryOp_repeat_ref (T := "tuple") (U := "int") (by decide) ⟨_, ho, rfl⟩ (fun s' => typeIs_int s' 1 t) noFill_tuple_mul F.fills_int_mul F.slot_int_rmul repeat_tuple F.slot_int_index.lookup
    (call_meets F.slot_int_rmul (typeIs_int s 1 t) F.entry_int_rmul (F.args_int_rmul_2 _ _) (int_rmul_tuple 1 t l its.toArray n dd sl)
      ⟨ho, rfl, ⟨_, ho, rfl⟩, call_meets F.slot_tuple_mul ⟨_, ho, rfl⟩ F.entry_tuple_mul (F.args_tuple_mul_2 _ _) (tuple_mul1 l its.toArray n dd sl t) ⟨ho, ?_⟩⟩)
  exact ⟨.ref l, H, I, rfl, q⟩
def mulA : D → D → Option Out
  | .tuple ds, .int k => if k = 1 then some (.val (.tuple ds)) else gd (decide (ds ≠ [] ∧ 2 ≤ k ∧ k ≤ 1000 ∧ ds.length ≤ 1000)) (some (.tupN (List.replicate k.toNat ds).flatten))
  | d, e => mulD d e
def rMulA (K : PySem.W.Frag) : R2 := fun x y H Q => ((rI CMulW fun i j => .int (i * j)) x y H Q ∨ rRep x y H Q) ∨ (rRepT K x y H Q ∨ rRep1 K x y H Q)
theorem o_mulA {X : Cx} : OpR X (binaryOp .Mult) (rMulA X.K) := OpR.or o_mul (OpR.or op_repT op_rep1)
theorem s_mulA {K : PySem.W.Frag} : Sound2 K (rMulA K) mulA := by
  intro H Z x y d e o Q s hx hy h q
  have key : mulD d e = some o → rMulA K x y H Q := fun h => .inl (s_mul H Z x y d e o Q s hx hy h q)
  cases d with
  | tuple ds =>
    cases e with
    | int k =>
      have h : (if k = 1 then some (Out.val (.tuple ds)) else gd (decide (ds ≠ [] ∧ 2 ≤ k ∧ k ≤ 1000 ∧ ds.length ≤ 1000)) (some (.tupN (List.replicate k.toNat ds).flatten))) = some o := h
      obtain ⟨a, vs, e1, h1, r1⟩ := hx.tup s
      by_cases hk : k = 1
      · rw [if_pos hk] at h; cases h
        exact .inr (.inr ⟨a, vs, e1, by rw [hy.int, hk], h1, by rw [← e1]; exact q _ hx.tupz⟩)
      · rw [if_neg hk] at h
        obtain ⟨hb, h⟩ := gd_some h; cases h
        obtain ⟨b1, b2, b3, b4⟩ := of_decide_eq_true hb
        refine .inr (.inl ⟨a, k, vs, e1, hy.int, h1, fun z => b1 ?_, b2, b3, by rw [dpA_len r1]; exact b4, fun p hp => q.2 p _ hp (dpA_rep r1 _)⟩)
        have := dpA_len r1
        rw [z] at this
        exact List.eq_nil_of_length_eq_zero this.symm
    | _ => exact key h
  | _ => exact key h
end Mw
namespace Mw
open PySem L2
/-- a slot that holds nothing or a value -/
def opn : Option D → Sl
  | none => .un
  | some d => .fro d
theorem shp_i (a : Int) : shp (.int a) = true := rfl
theorem eqv_i (a b : Int) : PyData.eqv (.int a) (.int b) = decide (a = b) := by
  show (a == b) = decide (a = b)
  rfl
theorem eqD_ii (a b : Int) : eqD (.int a) (.int b) = some (.val (.bool (decide (a = b)))) := by
  unfold eqD vB gd
  rw [shp_i, shp_i, eqv_i]; rfl
theorem neD_ii (a b : Int) : neD (.int a) (.int b) = some (.val (.bool (!decide (a = b)))) := by
  unfold neD vB gd
  rw [shp_i, shp_i, eqv_i]; rfl
theorem setS_o0 {s : Sl} {o : Option D} {r : List Sl} : setS 0 s (opn o :: r) = .ok (.nx, s :: r) := by cases o <;> rfl
theorem setS_f0 {s : Sl} {d : D} {r : List Sl} : setS 0 s (.fro d :: r) = .ok (.nx, s :: r) := rfl
theorem setS_u0 {s : Sl} {r : List Sl} : setS 0 s (.un :: r) = .ok (.nx, s :: r) := rfl
theorem setS_w0 {s : Sl} {d : List D} {r : List Sl} : setS 0 s (.own d :: r) = .ok (.nx, s :: r) := rfl
theorem setS_o1 {a0 s : Sl} {o : Option D} {r : List Sl} : setS 1 s (a0 :: opn o :: r) = .ok (.nx, a0 :: s :: r) := by cases o <;> rfl
theorem setS_f1 {a0 s : Sl} {d : D} {r : List Sl} : setS 1 s (a0 :: .fro d :: r) = .ok (.nx, a0 :: s :: r) := rfl
theorem setS_u1 {a0 s : Sl} {r : List Sl} : setS 1 s (a0 :: .un :: r) = .ok (.nx, a0 :: s :: r) := rfl
theorem setS_w1 {a0 s : Sl} {d : List D} {r : List Sl} : setS 1 s (a0 :: .own d :: r) = .ok (.nx, a0 :: s :: r) := rfl
theorem setS_o2 {a0 a1 s : Sl} {o : Option D} {r : List Sl} : setS 2 s (a0 :: a1 :: opn o :: r) = .ok (.nx, a0 :: a1 :: s :: r) := by cases o <;> rfl
theorem setS_f2 {a0 a1 s : Sl} {d : D} {r : List Sl} : setS 2 s (a0 :: a1 :: .fro d :: r) = .ok (.nx, a0 :: a1 :: s :: r) := rfl
theorem setS_u2 {a0 a1 s : Sl} {r : List Sl} : setS 2 s (a0 :: a1 :: .un :: r) = .ok (.nx, a0 :: a1 :: s :: r) := rfl
theorem setS_w2 {a0 a1 s : Sl} {d : List D} {r : List Sl} : setS 2 s (a0 :: a1 :: .own d :: r) = .ok (.nx, a0 :: a1 :: s :: r) := rfl
theorem setS_o3 {a0 a1 a2 s : Sl} {o : Option D} {r : List Sl} : setS 3 s (a0 :: a1 :: a2 :: opn o :: r) = .ok (.nx, a0 :: a1 :: a2 :: s :: r) := by cases o <;> rfl
theorem setS_f3 {a0 a1 a2 s : Sl} {d : D} {r : List Sl} : setS 3 s (a0 :: a1 :: a2 :: .fro d :: r) = .ok (.nx, a0 :: a1 :: a2 :: s :: r) := rfl
theorem setS_u3 {a0 a1 a2 s : Sl} {r : List Sl} : setS 3 s (a0 :: a1 :: a2 :: .un :: r) = .ok (.nx, a0 :: a1 :: a2 :: s :: r) := rfl
theorem setS_w3 {a0 a1 a2 s : Sl} {d : List D} {r : List Sl} : setS 3 s (a0 :: a1 :: a2 :: .own d :: r) = .ok (.nx, a0 :: a1 :: a2 :: s :: r) := rfl
theorem setS_o4 {a0 a1 a2 a3 s : Sl} {o : Option D} {r : List Sl} : setS 4 s (a0 :: a1 :: a2 :: a3 :: opn o :: r) = .ok (.nx, a0 :: a1 :: a2 :: a3 :: s :: r) := by cases o <;> rfl
theorem setS_f4 {a0 a1 a2 a3 s : Sl} {d : D} {r : List Sl} : setS 4 s (a0 :: a1 :: a2 :: a3 :: .fro d :: r) = .ok (.nx, a0 :: a1 :: a2 :: a3 :: s :: r) := rfl
theorem setS_u4 {a0 a1 a2 a3 s : Sl} {r : List Sl} : setS 4 s (a0 :: a1 :: a2 :: a3 :: .un :: r) = .ok (.nx, a0 :: a1 :: a2 :: a3 :: s :: r) := rfl
theorem setS_w4 {a0 a1 a2 a3 s : Sl} {d : List D} {r : List Sl} : setS 4 s (a0 :: a1 :: a2 :: a3 :: .own d :: r) = .ok (.nx, a0 :: a1 :: a2 :: a3 :: s :: r) := rfl
theorem setS_o5 {a0 a1 a2 a3 a4 s : Sl} {o : Option D} {r : List Sl} : setS 5 s (a0 :: a1 :: a2 :: a3 :: a4 :: opn o :: r) = .ok (.nx, a0 :: a1 :: a2 :: a3 :: a4 :: s :: r) := by cases o <;> rfl
theorem setS_f5 {a0 a1 a2 a3 a4 s : Sl} {d : D} {r : List Sl} : setS 5 s (a0 :: a1 :: a2 :: a3 :: a4 :: .fro d :: r) = .ok (.nx, a0 :: a1 :: a2 :: a3 :: a4 :: s :: r) := rfl
theorem setS_u5 {a0 a1 a2 a3 a4 s : Sl} {r : List Sl} : setS 5 s (a0 :: a1 :: a2 :: a3 :: a4 :: .un :: r) = .ok (.nx, a0 :: a1 :: a2 :: a3 :: a4 :: s :: r) := rfl
theorem setS_w5 {a0 a1 a2 a3 a4 s : Sl} {d : List D} {r : List Sl} : setS 5 s (a0 :: a1 :: a2 :: a3 :: a4 :: .own d :: r) = .ok (.nx, a0 :: a1 :: a2 :: a3 :: a4 :: s :: r) := rfl
theorem setS_o6 {a0 a1 a2 a3 a4 a5 s : Sl} {o : Option D} {r : List Sl} : setS 6 s (a0 :: a1 :: a2 :: a3 :: a4 :: a5 :: opn o :: r) = .ok (.nx, a0 :: a1 :: a2 :: a3 :: a4 :: a5 :: s :: r) := by cases o <;> rfl
theorem setS_f6 {a0 a1 a2 a3 a4 a5 s : Sl} {d : D} {r : List Sl} : setS 6 s (a0 :: a1 :: a2 :: a3 :: a4 :: a5 :: .fro d :: r) = .ok (.nx, a0 :: a1 :: a2 :: a3 :: a4 :: a5 :: s :: r) := rfl
theorem setS_u6 {a0 a1 a2 a3 a4 a5 s : Sl} {r : List Sl} : setS 6 s (a0 :: a1 :: a2 :: a3 :: a4 :: a5 :: .un :: r) = .ok (.nx, a0 :: a1 :: a2 :: a3 :: a4 :: a5 :: s :: r) := rfl
theorem setS_w6 {a0 a1 a2 a3 a4 a5 s : Sl} {d : List D} {r : List Sl} : setS 6 s (a0 :: a1 :: a2 :: a3 :: a4 :: a5 :: .own d :: r) = .ok (.nx, a0 :: a1 :: a2 :: a3 :: a4 :: a5 :: s :: r) := rfl
theorem setS_o7 {a0 a1 a2 a3 a4 a5 a6 s : Sl} {o : Option D} {r : List Sl} : setS 7 s (a0 :: a1 :: a2 :: a3 :: a4 :: a5 :: a6 :: opn o :: r) = .ok (.nx, a0 :: a1 :: a2 :: a3 :: a4 :: a5 :: a6 :: s :: r) := by cases o <;> rfl
theorem setS_f7 {a0 a1 a2 a3 a4 a5 a6 s : Sl} {d : D} {r : List Sl} : setS 7 s (a0 :: a1 :: a2 :: a3 :: a4 :: a5 :: a6 :: .fro d :: r) = .ok (.nx, a0 :: a1 :: a2 :: a3 :: a4 :: a5 :: a6 :: s :: r) := rfl
theorem setS_u7 {a0 a1 a2 a3 a4 a5 a6 s : Sl} {r : List Sl} : setS 7 s (a0 :: a1 :: a2 :: a3 :: a4 :: a5 :: a6 :: .un :: r) = .ok (.nx, a0 :: a1 :: a2 :: a3 :: a4 :: a5 :: a6 :: s :: r) := rfl
theorem setS_w7 {a0 a1 a2 a3 a4 a5 a6 s : Sl} {d : List D} {r : List Sl} : setS 7 s (a0 :: a1 :: a2 :: a3 :: a4 :: a5 :: a6 :: .own d :: r) = .ok (.nx, a0 :: a1 :: a2 :: a3 :: a4 :: a5 :: a6 :: s :: r) := rfl
theorem setS_o8 {a0 a1 a2 a3 a4 a5 a6 a7 s : Sl} {o : Option D} {r : List Sl} : setS 8 s (a0 :: a1 :: a2 :: a3 :: a4 :: a5 :: a6 :: a7 :: opn o :: r) = .ok (.nx, a0 :: a1 :: a2 :: a3 :: a4 :: a5 :: a6 :: a7 :: s :: r) := by cases o <;> rfl
theorem setS_f8 {a0 a1 a2 a3 a4 a5 a6 a7 s : Sl} {d : D} {r : List Sl} : setS 8 s (a0 :: a1 :: a2 :: a3 :: a4 :: a5 :: a6 :: a7 :: .fro d :: r) = .ok (.nx, a0 :: a1 :: a2 :: a3 :: a4 :: a5 :: a6 :: a7 :: s :: r) := rfl
theorem setS_u8 {a0 a1 a2 a3 a4 a5 a6 a7 s : Sl} {r : List Sl} : setS 8 s (a0 :: a1 :: a2 :: a3 :: a4 :: a5 :: a6 :: a7 :: .un :: r) = .ok (.nx, a0 :: a1 :: a2 :: a3 :: a4 :: a5 :: a6 :: a7 :: s :: r) := rfl
theorem setS_w8 {a0 a1 a2 a3 a4 a5 a6 a7 s : Sl} {d : List D} {r : List Sl} : setS 8 s (a0 :: a1 :: a2 :: a3 :: a4 :: a5 :: a6 :: a7 :: .own d :: r) = .ok (.nx, a0 :: a1 :: a2 :: a3 :: a4 :: a5 :: a6 :: a7 :: s :: r) := rfl
theorem setS_o9 {a0 a1 a2 a3 a4 a5 a6 a7 a8 s : Sl} {o : Option D} {r : List Sl} : setS 9 s (a0 :: a1 :: a2 :: a3 :: a4 :: a5 :: a6 :: a7 :: a8 :: opn o :: r) = .ok (.nx, a0 :: a1 :: a2 :: a3 :: a4 :: a5 :: a6 :: a7 :: a8 :: s :: r) := by cases o <;> rfl
theorem setS_f9 {a0 a1 a2 a3 a4 a5 a6 a7 a8 s : Sl} {d : D} {r : List Sl} : setS 9 s (a0 :: a1 :: a2 :: a3 :: a4 :: a5 :: a6 :: a7 :: a8 :: .fro d :: r) = .ok (.nx, a0 :: a1 :: a2 :: a3 :: a4 :: a5 :: a6 :: a7 :: a8 :: s :: r) := rfl
theorem setS_u9 {a0 a1 a2 a3 a4 a5 a6 a7 a8 s : Sl} {r : List Sl} : setS 9 s (a0 :: a1 :: a2 :: a3 :: a4 :: a5 :: a6 :: a7 :: a8 :: .un :: r) = .ok (.nx, a0 :: a1 :: a2 :: a3 :: a4 :: a5 :: a6 :: a7 :: a8 :: s :: r) := rfl
theorem setS_w9 {a0 a1 a2 a3 a4 a5 a6 a7 a8 s : Sl} {d : List D} {r : List Sl} : setS 9 s (a0 :: a1 :: a2 :: a3 :: a4 :: a5 :: a6 :: a7 :: a8 :: .own d :: r) = .ok (.nx, a0 :: a1 :: a2 :: a3 :: a4 :: a5 :: a6 :: a7 :: a8 :: s :: r) := rfl
theorem setS_o10 {a0 a1 a2 a3 a4 a5 a6 a7 a8 a9 s : Sl} {o : Option D} {r : List Sl} : setS 10 s (a0 :: a1 :: a2 :: a3 :: a4 :: a5 :: a6 :: a7 :: a8 :: a9 :: opn o :: r) = .ok (.nx, a0 :: a1 :: a2 :: a3 :: a4 :: a5 :: a6 :: a7 :: a8 :: a9 :: s :: r) := by cases o <;> rfl
theorem setS_f10 {a0 a1 a2 a3 a4 a5 a6 a7 a8 a9 s : Sl} {d : D} {r : List Sl} : setS 10 s (a0 :: a1 :: a2 :: a3 :: a4 :: a5 :: a6 :: a7 :: a8 :: a9 :: .fro d :: r) = .ok (.nx, a0 :: a1 :: a2 :: a3 :: a4 :: a5 :: a6 :: a7 :: a8 :: a9 :: s :: r) := rfl
theorem setS_u10 {a0 a1 a2 a3 a4 a5 a6 a7 a8 a9 s : Sl} {r : List Sl} : setS 10 s (a0 :: a1 :: a2 :: a3 :: a4 :: a5 :: a6 :: a7 :: a8 :: a9 :: .un :: r) = .ok (.nx, a0 :: a1 :: a2 :: a3 :: a4 :: a5 :: a6 :: a7 :: a8 :: a9 :: s :: r) := rfl
theorem setS_w10 {a0 a1 a2 a3 a4 a5 a6 a7 a8 a9 s : Sl} {d : List D} {r : List Sl} : setS 10 s (a0 :: a1 :: a2 :: a3 :: a4 :: a5 :: a6 :: a7 :: a8 :: a9 :: .own d :: r) = .ok (.nx, a0 :: a1 :: a2 :: a3 :: a4 :: a5 :: a6 :: a7 :: a8 :: a9 :: s :: r) := rfl
theorem setS_o11 {a0 a1 a2 a3 a4 a5 a6 a7 a8 a9 a10 s : Sl} {o : Option D} {r : List Sl} : setS 11 s (a0 :: a1 :: a2 :: a3 :: a4 :: a5 :: a6 :: a7 :: a8 :: a9 :: a10 :: opn o :: r) = .ok (.nx, a0 :: a1 :: a2 :: a3 :: a4 :: a5 :: a6 :: a7 :: a8 :: a9 :: a10 :: s :: r) := by cases o <;> rfl
theorem setS_f11 {a0 a1 a2 a3 a4 a5 a6 a7 a8 a9 a10 s : Sl} {d : D} {r : List Sl} : setS 11 s (a0 :: a1 :: a2 :: a3 :: a4 :: a5 :: a6 :: a7 :: a8 :: a9 :: a10 :: .fro d :: r) = .ok (.nx, a0 :: a1 :: a2 :: a3 :: a4 :: a5 :: a6 :: a7 :: a8 :: a9 :: a10 :: s :: r) := rfl
theorem setS_u11 {a0 a1 a2 a3 a4 a5 a6 a7 a8 a9 a10 s : Sl} {r : List Sl} : setS 11 s (a0 :: a1 :: a2 :: a3 :: a4 :: a5 :: a6 :: a7 :: a8 :: a9 :: a10 :: .un :: r) = .ok (.nx, a0 :: a1 :: a2 :: a3 :: a4 :: a5 :: a6 :: a7 :: a8 :: a9 :: a10 :: s :: r) := rfl
theorem setS_w11 {a0 a1 a2 a3 a4 a5 a6 a7 a8 a9 a10 s : Sl} {d : List D} {r : List Sl} : setS 11 s (a0 :: a1 :: a2 :: a3 :: a4 :: a5 :: a6 :: a7 :: a8 :: a9 :: a10 :: .own d :: r) = .ok (.nx, a0 :: a1 :: a2 :: a3 :: a4 :: a5 :: a6 :: a7 :: a8 :: a9 :: a10 :: s :: r) := rfl
theorem setS_o12 {a0 a1 a2 a3 a4 a5 a6 a7 a8 a9 a10 a11 s : Sl} {o : Option D} {r : List Sl} : setS 12 s (a0 :: a1 :: a2 :: a3 :: a4 :: a5 :: a6 :: a7 :: a8 :: a9 :: a10 :: a11 :: opn o :: r) = .ok (.nx, a0 :: a1 :: a2 :: a3 :: a4 :: a5 :: a6 :: a7 :: a8 :: a9 :: a10 :: a11 :: s :: r) := by cases o <;> rfl
theorem setS_f12 {a0 a1 a2 a3 a4 a5 a6 a7 a8 a9 a10 a11 s : Sl} {d : D} {r : List Sl} : setS 12 s (a0 :: a1 :: a2 :: a3 :: a4 :: a5 :: a6 :: a7 :: a8 :: a9 :: a10 :: a11 :: .fro d :: r) = .ok (.nx, a0 :: a1 :: a2 :: a3 :: a4 :: a5 :: a6 :: a7 :: a8 :: a9 :: a10 :: a11 :: s :: r) := rfl
theorem setS_u12 {a0 a1 a2 a3 a4 a5 a6 a7 a8 a9 a10 a11 s : Sl} {r : List Sl} : setS 12 s (a0 :: a1 :: a2 :: a3 :: a4 :: a5 :: a6 :: a7 :: a8 :: a9 :: a10 :: a11 :: .un :: r) = .ok (.nx, a0 :: a1 :: a2 :: a3 :: a4 :: a5 :: a6 :: a7 :: a8 :: a9 :: a10 :: a11 :: s :: r) := rfl
theorem setS_w12 {a0 a1 a2 a3 a4 a5 a6 a7 a8 a9 a10 a11 s : Sl} {d : List D} {r : List Sl} : setS 12 s (a0 :: a1 :: a2 :: a3 :: a4 :: a5 :: a6 :: a7 :: a8 :: a9 :: a10 :: a11 :: .own d :: r) = .ok (.nx, a0 :: a1 :: a2 :: a3 :: a4 :: a5 :: a6 :: a7 :: a8 :: a9 :: a10 :: a11 :: s :: r) := rfl
theorem setS_o13 {a0 a1 a2 a3 a4 a5 a6 a7 a8 a9 a10 a11 a12 s : Sl} {o : Option D} {r : List Sl} : setS 13 s (a0 :: a1 :: a2 :: a3 :: a4 :: a5 :: a6 :: a7 :: a8 :: a9 :: a10 :: a11 :: a12 :: opn o :: r) = .ok (.nx, a0 :: a1 :: a2 :: a3 :: a4 :: a5 :: a6 :: a7 :: a8 :: a9 :: a10 :: a11 :: a12 :: s :: r) := by cases o <;> rfl
theorem setS_f13 {a0 a1 a2 a3 a4 a5 a6 a7 a8 a9 a10 a11 a12 s : Sl} {d : D} {r : List Sl} : setS 13 s (a0 :: a1 :: a2 :: a3 :: a4 :: a5 :: a6 :: a7 :: a8 :: a9 :: a10 :: a11 :: a12 :: .fro d :: r) = .ok (.nx, a0 :: a1 :: a2 :: a3 :: a4 :: a5 :: a6 :: a7 :: a8 :: a9 :: a10 :: a11 :: a12 :: s :: r) := rfl
theorem setS_u13 {a0 a1 a2 a3 a4 a5 a6 a7 a8 a9 a10 a11 a12 s : Sl} {r : List Sl} : setS 13 s (a0 :: a1 :: a2 :: a3 :: a4 :: a5 :: a6 :: a7 :: a8 :: a9 :: a10 :: a11 :: a12 :: .un :: r) = .ok (.nx, a0 :: a1 :: a2 :: a3 :: a4 :: a5 :: a6 :: a7 :: a8 :: a9 :: a10 :: a11 :: a12 :: s :: r) := rfl
theorem setS_w13 {a0 a1 a2 a3 a4 a5 a6 a7 a8 a9 a10 a11 a12 s : Sl} {d : List D} {r : List Sl} : setS 13 s (a0 :: a1 :: a2 :: a3 :: a4 :: a5 :: a6 :: a7 :: a8 :: a9 :: a10 :: a11 :: a12 :: .own d :: r) = .ok (.nx, a0 :: a1 :: a2 :: a3 :: a4 :: a5 :: a6 :: a7 :: a8 :: a9 :: a10 :: a11 :: a12 :: s :: r) := rfl
theorem setS_o14 {a0 a1 a2 a3 a4 a5 a6 a7 a8 a9 a10 a11 a12 a13 s : Sl} {o : Option D} {r : List Sl} : setS 14 s (a0 :: a1 :: a2 :: a3 :: a4 :: a5 :: a6 :: a7 :: a8 :: a9 :: a10 :: a11 :: a12 :: a13 :: opn o :: r) = .ok (.nx, a0 :: a1 :: a2 :: a3 :: a4 :: a5 :: a6 :: a7 :: a8 :: a9 :: a10 :: a11 :: a12 :: a13 :: s :: r) := by cases o <;> rfl
theorem setS_f14 {a0 a1 a2 a3 a4 a5 a6 a7 a8 a9 a10 a11 a12 a13 s : Sl} {d : D} {r : List Sl} : setS 14 s (a0 :: a1 :: a2 :: a3 :: a4 :: a5 :: a6 :: a7 :: a8 :: a9 :: a10 :: a11 :: a12 :: a13 :: .fro d :: r) = .ok (.nx, a0 :: a1 :: a2 :: a3 :: a4 :: a5 :: a6 :: a7 :: a8 :: a9 :: a10 :: a11 :: a12 :: a13 :: s :: r) := rfl
theorem setS_u14 {a0 a1 a2 a3 a4 a5 a6 a7 a8 a9 a10 a11 a12 a13 s : Sl} {r : List Sl} : setS 14 s (a0 :: a1 :: a2 :: a3 :: a4 :: a5 :: a6 :: a7 :: a8 :: a9 :: a10 :: a11 :: a12 :: a13 :: .un :: r) = .ok (.nx, a0 :: a1 :: a2 :: a3 :: a4 :: a5 :: a6 :: a7 :: a8 :: a9 :: a10 :: a11 :: a12 :: a13 :: s :: r) := rfl
theorem setS_w14 {a0 a1 a2 a3 a4 a5 a6 a7 a8 a9 a10 a11 a12 a13 s : Sl} {d : List D} {r : List Sl} : setS 14 s (a0 :: a1 :: a2 :: a3 :: a4 :: a5 :: a6 :: a7 :: a8 :: a9 :: a10 :: a11 :: a12 :: a13 :: .own d :: r) = .ok (.nx, a0 :: a1 :: a2 :: a3 :: a4 :: a5 :: a6 :: a7 :: a8 :: a9 :: a10 :: a11 :: a12 :: a13 :: s :: r) := rfl
theorem setS_o15 {a0 a1 a2 a3 a4 a5 a6 a7 a8 a9 a10 a11 a12 a13 a14 s : Sl} {o : Option D} {r : List Sl} : setS 15 s (a0 :: a1 :: a2 :: a3 :: a4 :: a5 :: a6 :: a7 :: a8 :: a9 :: a10 :: a11 :: a12 :: a13 :: a14 :: opn o :: r) = .ok (.nx, a0 :: a1 :: a2 :: a3 :: a4 :: a5 :: a6 :: a7 :: a8 :: a9 :: a10 :: a11 :: a12 :: a13 :: a14 :: s :: r) := by cases o <;> rfl
theorem setS_f15 {a0 a1 a2 a3 a4 a5 a6 a7 a8 a9 a10 a11 a12 a13 a14 s : Sl} {d : D} {r : List Sl} : setS 15 s (a0 :: a1 :: a2 :: a3 :: a4 :: a5 :: a6 :: a7 :: a8 :: a9 :: a10 :: a11 :: a12 :: a13 :: a14 :: .fro d :: r) = .ok (.nx, a0 :: a1 :: a2 :: a3 :: a4 :: a5 :: a6 :: a7 :: a8 :: a9 :: a10 :: a11 :: a12 :: a13 :: a14 :: s :: r) := rfl
theorem setS_u15 {a0 a1 a2 a3 a4 a5 a6 a7 a8 a9 a10 a11 a12 a13 a14 s : Sl} {r : List Sl} : setS 15 s (a0 :: a1 :: a2 :: a3 :: a4 :: a5 :: a6 :: a7 :: a8 :: a9 :: a10 :: a11 :: a12 :: a13 :: a14 :: .un :: r) = .ok (.nx, a0 :: a1 :: a2 :: a3 :: a4 :: a5 :: a6 :: a7 :: a8 :: a9 :: a10 :: a11 :: a12 :: a13 :: a14 :: s :: r) := rfl
theorem setS_w15 {a0 a1 a2 a3 a4 a5 a6 a7 a8 a9 a10 a11 a12 a13 a14 s : Sl} {d : List D} {r : List Sl} : setS 15 s (a0 :: a1 :: a2 :: a3 :: a4 :: a5 :: a6 :: a7 :: a8 :: a9 :: a10 :: a11 :: a12 :: a13 :: a14 :: .own d :: r) = .ok (.nx, a0 :: a1 :: a2 :: a3 :: a4 :: a5 :: a6 :: a7 :: a8 :: a9 :: a10 :: a11 :: a12 :: a13 :: a14 :: s :: r) := rfl
theorem ansE_ok {ev : EV} {b : Option (List D)} {g : List Sl} : ansE (.ok ev b) g = .ok (ev, g) := (Eq.refl (ansE (.ok ev b) g)).trans rfl
theorem ansE_exn {k : Nat} {f : Str} {p : D} {b : Option (List D)} {g : List Sl} : ansE (.exn k f p b) g = .exn k f p g := (Eq.refl (ansE (.exn k f p b) g)).trans rfl
-- runs a denotation
end Mw
open PySem L2 Mw
local macro_rules
  | `(tactic| simp_arith! [$ts,*]) => `(tactic| simp only [Mw.fdN, Mw.fdD, Mw.chk, Mw.borOf, Mw.flEv, Mw.seqS, Mw.bnd, Mw.ret, Mw.nxS, Mw.bkS, Mw.ctS, Mw.ifS, Mw.exprS, Mw.mvE, Mw.asgS, Mw.retV, Mw.retE, Mw.retS, Mw.cst, Mw.vr, Mw.op1, Mw.op2, Mw.opN, Mw.onE, Mw.app1, Mw.app2, Mw.appN, Mw.look, Mw.lookL, Mw.slD, Mw.frz, Mw.esc, Mw.escL, Mw.Out.ev, Mw.argsNil, Mw.argsCons, Mw.tupE, Mw.lstE, Mw.tstE, Mw.truE, Mw.truD, Mw.andT, Mw.orT, Mw.notT, Mw.ifE, Mw.andV, Mw.orV, Mw.notV, Mw.notX,
      Mw.vI, Mw.vB, Mw.gd, Mw.addD, Mw.subD, Mw.negD, Mw.ltD, Mw.leD, Mw.gtD, Mw.geD, Mw.modD, Mw.divD, Mw.isNon, Mw.isBl, Mw.isNF, Mw.noNF, Mw.isBD, Mw.chE, Mw.endF, Mw.forS, Mw.asgT, Mw.Tg.put, Mw.setL, Mw.escA, Mw.escAL, Mw.ansE_ok, Mw.ansE_exn, Mw.callE, Mw.callB, Mw.borCall, Mw.seqE, Mw.seqS', Mw.rngE, Mw.rngF1, Mw.rngF2, Mw.lenF, Mw.intF, Mw.absF, Mw.maxF, Mw.minF, Mw.sumF, Mw.maxLF, Mw.minLF, Mw.listF, Mw.tupleF, Mw.seqF, Mw.isiF, Mw.isTy, Mw.popE, Mw.popF, Mw.apE, Mw.appF, Mw.slotL, Mw.muG, Mw.raiseS, Mw.iniD, Mw.vrS, Mw.scrE, Mw.tryS, Mw.hand, Mw.excP, Mw.offS, Mw.okFl, Mw.cleanG, Mw.cleanS, Mw.isxE, Mw.fldE, Mw.revA, Mw.mulA, Mw.wipeG, Mw.restG, Mw.keepSl, Mw.eqD_ii, Mw.neD_ii,
      List.length_cons, List.length_nil, List.append_nil, List.nil_append, List.cons_append, List.replicate, List.getElem?_cons_zero, List.getElem?_cons_succ, List.set_cons_zero, List.set_cons_succ, List.map_cons, List.map_nil, List.any_cons, List.any_nil, List.headD, Option.bind_some, Option.bind_none, Option.map_some, Option.map_none, Option.some.injEq, if_true, if_false, Bool.false_eq_true, reduceCtorEq, decide_true, decide_false, Bool.and_self, Bool.or_self, Bool.not_true, Bool.not_false, Bool.true_or, Bool.false_or, Bool.or_true, Bool.or_false, Bool.true_and, Bool.false_and, Bool.and_true, Bool.and_false, reduceIte, Int.reduceLT, Int.reduceLE, Int.reduceEq, Int.reduceGT, Int.reduceAdd, Int.reduceSub, Int.reduceNeg, Int.reduceMul, Int.zero_add, Mw.setS_o0, Mw.setS_f0, Mw.setS_u0, Mw.setS_w0, Mw.setS_o1, Mw.setS_f1, Mw.setS_u1, Mw.setS_w1, Mw.setS_o2, Mw.setS_f2, Mw.setS_u2, Mw.setS_w2, Mw.setS_o3, Mw.setS_f3, Mw.setS_u3, Mw.setS_w3, Mw.setS_o4, Mw.setS_f4, Mw.setS_u4, Mw.setS_w4, Mw.setS_o5, Mw.setS_f5, Mw.setS_u5, Mw.setS_w5, Mw.setS_o6, Mw.setS_f6, Mw.setS_u6, Mw.setS_w6, Mw.setS_o7, Mw.setS_f7, Mw.setS_u7, Mw.setS_w7, Mw.setS_o8, Mw.setS_f8, Mw.setS_u8, Mw.setS_w8, Mw.setS_o9, Mw.setS_f9, Mw.setS_u9, Mw.setS_w9, Mw.setS_o10, Mw.setS_f10, Mw.setS_u10, Mw.setS_w10, Mw.setS_o11, Mw.setS_f11, Mw.setS_u11, Mw.setS_w11, Mw.setS_o12, Mw.setS_f12, Mw.setS_u12, Mw.setS_w12, Mw.setS_o13, Mw.setS_f13, Mw.setS_u13, Mw.setS_w13, Mw.setS_o14, Mw.setS_f14, Mw.setS_u14, Mw.setS_w14, Mw.setS_o15, Mw.setS_f15, Mw.setS_u15, Mw.setS_w15, Nat.reduceAdd, Nat.reduceEqDiff, Nat.reduceLT, Nat.reduceLeDiff, $ts,*])
namespace Mw
open PySem L2


theorem post_ok {α : Type} {ok : α → List Sl → Prop} {ex : Nat → Str → D → List Sl → Prop} {a : α} {g : List Sl} : Post ok ex (.ok (a, g)) = ok a g := rfl
theorem post_exn {α : Type} {ok : α → List Sl → Prop} {ex : Nat → Str → D → List Sl → Prop} {k : Nat} {f : Str} {p : D} {g : List Sl} : Post ok ex (.exn k f p g : Res (α × List Sl)) = ex k f p g := rfl
theorem post_stuck {α : Type} {ok : α → List Sl → Prop} {ex : Nat → Str → D → List Sl → Prop} : Post ok ex (.stuck : Res (α × List Sl)) = False := rfl
theorem post_ite {α : Type} {ok : α → List Sl → Prop} {ex : Nat → Str → D → List Sl → Prop} {c : Prop} [Decidable c] {a b : SM α} {g : List Sl} : Post ok ex ((if c then a else b) g) = if c then Post ok ex (a g) else Post ok ex (b g) := by
  by_cases h : c
  · rw [if_pos h, if_pos h]
  · rw [if_neg h, if_neg h]
theorem post_lc {vs : List Nat} {it : SM (List D)} {t : Tg} {q : SM Bool} {el : SM EV} {g : List Sl} {ok : EV → List Sl → Prop} {ex : Nat → Str → D → List Sl → Prop} :
    Post ok ex (lcE vs it t q el g) ↔ Post (fun ds g1 => Post (fun acc g2 => ok (.own acc) (restG vs g1 g2)) (fun _ _ _ _ => False) (lcL vs t q el [] ds (wipeG g1 vs))) ex (it g) := by
  unfold lcE
  rw [post_bnd]
  have : ∀ ds g1, Post ok ex (match lcL vs t q el [] ds (wipeG g1 vs) with
    | .ok (acc, g1') => (.ok (EV.own acc, restG vs g1 g1') : Res (EV × List Sl))
    | _ => .stuck) ↔ Post (fun acc g2 => ok (.own acc) (restG vs g1 g2)) (fun _ _ _ _ => False) (lcL vs t q el [] ds (wipeG g1 vs)) := fun ds g1 => by
    cases lcL vs t q el [] ds (wipeG g1 vs) with
    | ok x => exact Iff.rfl
    | exn _ _ _ _ => exact Iff.rfl
    | stuck => exact Iff.rfl
  exact ⟨fun h => post_mono h (fun ds g1 => (this ds g1).mp) fun _ _ _ _ q => q, fun h => post_mono h (fun ds g1 => (this ds g1).mpr) fun _ _ _ _ q => q⟩
theorem post_bnd_eq {α β : Type} {m : SM α} {f : α → SM β} {g : List Sl} {ok : β → List Sl → Prop} {ex : Nat → Str → D → List Sl → Prop} : Post ok ex (bnd m f g) = Post (fun a g' => Post ok ex (f a g')) ex (m g) := propext post_bnd
theorem post_lc_eq {vs : List Nat} {it : SM (List D)} {t : Tg} {q : SM Bool} {el : SM EV} {g : List Sl} {ok : EV → List Sl → Prop} {ex : Nat → Str → D → List Sl → Prop} :
    Post ok ex (lcE vs it t q el g) = Post (fun ds g1 => Post (fun acc g2 => ok (.own acc) (restG vs g1 g2)) (fun _ _ _ _ => False) (lcL vs t q el [] ds (wipeG g1 vs))) ex (it g) := propext post_lc
theorem post_try_eq {sb : Nat → Nat → Bool} {n : Nat} {b : SM Fl} {hs : List Hdl} {g : List Sl} {ok : Fl → List Sl → Prop} {ex : Nat → Str → D → List Sl → Prop} :
    Post ok ex (tryS sb n b hs g) = Post ok (fun k f p g' => if 0 < k ∧ k < n then Post ok ex (hand sb hs k f p g') else False) (b g) := by
  unfold tryS
  cases b g with
  | ok x => rfl
  | stuck => rfl
  | exn k f p g' =>
    show Post ok ex (if 0 < k ∧ k < n then hand sb hs k f p g' else .stuck) = if 0 < k ∧ k < n then Post ok ex (hand sb hs k f p g') else False
    by_cases h : 0 < k ∧ k < n
    · rw [if_pos h, if_pos h]
    · rw [if_neg h, if_neg h]; rfl
theorem post_off_eq {s : SM Fl} {cl : List Sl → List Sl} {g : List Sl} {ok : Fl → List Sl → Prop} {ex : Nat → Str → D → List Sl → Prop} :
    Post ok ex (offS s cl g) = Post (fun fl g' => if okFl fl = true then ok fl (cl g') else False) (fun _ _ _ _ => False) (s g) := by
  unfold offS
  cases s g with
  | stuck => rfl
  | exn k f p g' => rfl
  | ok x =>
    obtain ⟨fl, g'⟩ := x
    show Post ok ex (if okFl fl = true then .ok (fl, cl g') else .stuck) = if okFl fl = true then ok fl (cl g') else False
    by_cases h : okFl fl = true
    · rw [if_pos h, if_pos h]; rfl
    · rw [if_neg h, if_neg h]; rfl
theorem post_ite_pos {α : Type} {ok : α → List Sl → Prop} {ex : Nat → Str → D → List Sl → Prop} {c : Prop} [Decidable c] {a b : SM α} {g : List Sl} (h : c) : Post ok ex ((if c then a else b) g) = Post ok ex (a g) := by rw [if_pos h]
theorem post_ite_neg {α : Type} {ok : α → List Sl → Prop} {ex : Nat → Str → D → List Sl → Prop} {c : Prop} [Decidable c] {a b : SM α} {g : List Sl} (h : ¬ c) : Post ok ex ((if c then a else b) g) = Post ok ex (b g) := by rw [if_neg h]
theorem ob_some {α β : Type} (a : α) (f : α → Option β) : (some a).bind f = f a := (Eq.refl ((some a).bind f)).trans rfl
theorem ob_none {α β : Type} (f : α → Option β) : (none : Option α).bind f = none := (Eq.refl _).trans rfl
/-! ## the operators at data, told once -/
theorem addD_ii (a b : Int) : addD (.int a) (.int b) = some (.val (.int (a + b))) := rfl
theorem subD_ii (a b : Int) : subD (.int a) (.int b) = some (.val (.int (a - b))) := rfl
theorem negD_i (a : Int) : negD (.int a) = some (.val (.int (-a))) := rfl
theorem ltD_ii (a b : Int) : ltD (.int a) (.int b) = some (.val (.bool (decide (a < b)))) := rfl
theorem leD_ii (a b : Int) : leD (.int a) (.int b) = some (.val (.bool (decide (a ≤ b)))) := rfl
theorem gtD_ii (a b : Int) : gtD (.int a) (.int b) = some (.val (.bool (decide (b < a)))) := rfl
theorem geD_ii (a b : Int) : geD (.int a) (.int b) = some (.val (.bool (decide (b ≤ a)))) := rfl
theorem modD_ii {a b : Int} (h : 0 < b) : modD (.int a) (.int b) = some (.val (.int (a % b))) := by
  show gd (decide (0 < b)) _ = _
  rw [decide_eq_true h]; rfl
theorem divD_ii {a b : Int} (h : divOk b = true) : divD (.int a) (.int b) = some (.val (.int (a / b))) := by
  show gd (divOk b) _ = _
  rw [h]; rfl
theorem mulA_ii {a b : Int} (h : mulOk a b = true) : mulA (.int a) (.int b) = some (.val (.int (a * b))) := by
  show gd (mulOk a b) _ = _
  rw [h]; rfl
theorem rngF1_ok {j : Int} (h : rOk j = true) : rngF1 [.int j] = some (rngL 0 j.toNat) := by
  show (if rOk j = true then _ else _) = _
  rw [if_pos h]
theorem rngF2_ok {i j : Int} (h : rOk i = true) (h2 : rOk j = true) : rngF2 [.int i, .int j] = some (rngL i (j - i).toNat) := by
  show (if (rOk i && rOk j) = true then _ else _) = _
  rw [h, h2]; rfl
theorem lenF_l (ds : List D) : lenF [.list ds] = some (.val (.int (ds.length : Nat))) := rfl
theorem lenF_t (ds : List D) : lenF [.tuple ds] = some (.val (.int (ds.length : Nat))) := rfl
theorem intF_i (i : Int) : intF [.int i] = some (.val (.int i)) := rfl
theorem absF_i (i : Int) : absF [.int i] = some (.val (.int (if i < 0 then -i else i))) := rfl
theorem maxF_ii (i j : Int) : maxF [.int i, .int j] = some (.val (.int (if j > i then j else i))) := rfl
theorem minF_ii (i j : Int) : minF [.int i, .int j] = some (.val (.int (if j < i then j else i))) := rfl
theorem listF_l (ds : List D) : listF [.list ds] = some (.lstN ds) := rfl
theorem listF_t (ds : List D) : listF [.tuple ds] = some (.lstN ds) := rfl
theorem tupleF_l (ds : List D) : tupleF [.list ds] = some (.tupN ds) := rfl
theorem tupleF_t (ds : List D) : tupleF [.tuple ds] = some (.val (.tuple ds)) := rfl
theorem appF_ok {d : D} {ds : List D} (h : ds.length < SZ) : appF d ds = some (ds ++ [d], .none) := if_pos h
theorem popF_app (ds : List D) (d : D) : popF (ds ++ [d]) = some (ds, d) := by
  unfold popF
  rw [List.getLast?_append, List.getLast?_singleton, List.dropLast_concat]; rfl
theorem ixD_l {ds : List D} {i : Int} {d : D} (h : atI ds i = some d) : ixD (.list ds) (.int i) = some (.val d) := by
  show (atI ds i).map _ = _
  rw [h]; rfl
theorem ixD_t {ds : List D} {i : Int} {d : D} (h : atI ds i = some d) : ixD (.tuple ds) (.int i) = some (.val d) := by
  show (atI ds i).map _ = _
  rw [h]; rfl
theorem isNF_d (d : D) : isNF d = some (.val (.bool (isNon d))) := rfl
theorem noNF_d (d : D) : noNF d = some (.val (.bool (!isNon d))) := rfl
theorem isBD_d (d : D) (b : Bool) : isBD d (.bool b) = some (.val (.bool (isBl b d))) := by cases d <;> rfl
theorem isiF_i (ts : List Ty) (i : Int) : isiF ts (.int i) = some (.val (.bool (ts.any fun t => isTy t (.int i)))) := rfl
theorem isiF_b (ts : List Ty) (i : Bool) : isiF ts (.bool i) = some (.val (.bool (ts.any fun t => isTy t (.bool i)))) := rfl
theorem isiF_s (ts : List Ty) (i : Str) : isiF ts (.str i) = some (.val (.bool (ts.any fun t => isTy t (.str i)))) := rfl
theorem isiF_l (ts : List Ty) (i : List D) : isiF ts (.list i) = some (.val (.bool (ts.any fun t => isTy t (.list i)))) := rfl
theorem isiF_t (ts : List Ty) (i : List D) : isiF ts (.tuple i) = some (.val (.bool (ts.any fun t => isTy t (.tuple i)))) := rfl
theorem isiF_n (ts : List Ty) : isiF ts .none = some (.val (.bool (ts.any fun t => isTy t .none))) := rfl
/-! lemmas in place of definitions, so that the kernel looks into no call -/
def outR (g : List Sl) : Option Out → Res (EV × List Sl)
  | some o => .ok (o.ev, g)
  | none => .stuck
theorem outR_s {g : List Sl} {o : Out} : outR g (some o) = .ok (o.ev, g) := (Eq.refl (outR g (some o))).trans rfl
theorem outR_n {g : List Sl} : outR g none = .stuck := (Eq.refl (outR g none)).trans rfl
theorem app1_eq {f : D → Option Out} {x : EV} {g : List Sl} : app1 f x g = outR g ((look g x).bind f) := by
  unfold app1
  cases (look g x).bind f <;> rfl
theorem app2_eq {f : D → D → Option Out} {x y : EV} {g : List Sl} : app2 f x y g = outR g ((look g x).bind fun d => (look g y).bind fun e => f d e) := by
  unfold app2
  cases ((look g x).bind fun d => (look g y).bind fun e => f d e) <;> rfl
theorem appN_eq {f : List D → Option Out} {xs : List EV} {g : List Sl} : appN f xs g = outR g ((lookL g xs).bind f) := by
  unfold appN
  cases (lookL g xs).bind f <;> rfl
def ansB (s : List D → Sl) (i : Nat) (g : List Sl) : FR → Res (EV × List Sl)
  | .ok ev (some ds') => .ok (ev, g.set i (s ds'))
  | .exn k x p (some ds') => .exn k x p (g.set i (s ds'))
  | _ => .stuck
theorem ansB_ok {s : List D → Sl} {i : Nat} {g : List Sl} {ev : EV} {ds : List D} : ansB s i g (.ok ev (some ds)) = .ok (ev, g.set i (s ds)) := (Eq.refl (ansB s i g (.ok ev (some ds)))).trans rfl
theorem ansB_exn {s : List D → Sl} {i : Nat} {g : List Sl} {k : Nat} {x : Str} {p : D} {ds : List D} : ansB s i g (.exn k x p (some ds)) = .exn k x p (g.set i (s ds)) := (Eq.refl (ansB s i g (.exn k x p (some ds)))).trans rfl
def borR (f : Fd) (i : Nat) (as : List Sl) (g : List Sl) : Option Sl → Res (EV × List Sl)
  | some (.own ds) => ansB .own i g (f (.bor ds :: as))
  | some (.bor ds) => ansB .bor i g (f (.bor ds :: as))
  | _ => .stuck
theorem borR_own {f : Fd} {i : Nat} {as g : List Sl} {ds : List D} : borR f i as g (some (.own ds)) = ansB .own i g (f (.bor ds :: as)) := (Eq.refl (borR f i as g (some (.own ds)))).trans rfl
theorem borR_bor {f : Fd} {i : Nat} {as g : List Sl} {ds : List D} : borR f i as g (some (.bor ds)) = ansB .bor i g (f (.bor ds :: as)) := (Eq.refl (borR f i as g (some (.bor ds)))).trans rfl
theorem borCall_eq {f : Fd} {i : Nat} {as g : List Sl} : borCall f i as g = borR f i as g g[i]? := by
  unfold borCall
  cases g[i]? with
  | none => rfl
  | some s =>
    cases s with
    | own ds =>
      show (match f (.bor ds :: as) with
        | .ok ev (some ds') => .ok (ev, g.set i (.own ds'))
        | .exn k x p (some ds') => .exn k x p (g.set i (.own ds'))
        | _ => .stuck) = ansB .own i g (f (.bor ds :: as))
      generalize f (.bor ds :: as) = r
      cases r with
      | ok ev b => cases b <;> rfl
      | exn k x p b => cases b <;> rfl
      | stuck => rfl
    | bor ds =>
      show (match f (.bor ds :: as) with
        | .ok ev (some ds') => .ok (ev, g.set i (.bor ds'))
        | .exn k x p (some ds') => .exn k x p (g.set i (.bor ds'))
        | _ => .stuck) = ansB .bor i g (f (.bor ds :: as))
      generalize f (.bor ds :: as) = r
      cases r with
      | ok ev b => cases b <;> rfl
      | exn k x p b => cases b <;> rfl
      | stuck => rfl
    | _ => rfl

/-! ## running under Post, by rules at the root alone -/
section
variable {α β : Type} {ok : α → List Sl → Prop} {okE : EV → List Sl → Prop} {okF : Fl → List Sl → Prop} {okB : Bool → List Sl → Prop} {okD : D → List Sl → Prop} {okU : Unit → List Sl → Prop} {okL : List D → List Sl → Prop} {okA : List EV → List Sl → Prop} {okS : Sl → List Sl → Prop} {okT : List Sl → List Sl → Prop} {okO : Option Int → List Sl → Prop} {ex : Nat → Str → D → List Sl → Prop} {g : List Sl}
def cB (f : α → SM β) (ok : β → List Sl → Prop) (ex : Nat → Str → D → List Sl → Prop) : α → List Sl → Prop := fun a g => Post ok ex (f a g)
theorem c_B {f : α → SM β} {ok : β → List Sl → Prop} {a : α} : cB f ok ex a g = Post ok ex (f a g) := (Eq.refl (cB f ok ex a g)).trans rfl
theorem p_bnd {m : SM α} {f : α → SM β} {ok : β → List Sl → Prop} : Post ok ex (bnd m f g) = Post (cB f ok ex) ex (m g) := post_bnd_eq
theorem p_ok {a : α} : Post ok ex (.ok (a, g)) = ok a g := (Eq.refl (Post ok ex (.ok (a, g)))).trans rfl
theorem p_exn {k : Nat} {f : Str} {p : D} : Post ok ex (.exn k f p g : Res (α × List Sl)) = ex k f p g := (Eq.refl (ex k f p g)).trans rfl
theorem p_stuck : Post ok ex (.stuck : Res (α × List Sl)) = False := (Eq.refl False).trans rfl
theorem p_ret {a : α} : Post ok ex (ret a g) = ok a g := (Eq.refl (ok a g)).trans rfl
theorem p_onE {m : SM EV} {k : EV → SM β} {ok : β → List Sl → Prop} : Post ok ex (onE m k g) = Post (cB (fun ev => k (frz ev)) ok ex) ex (m g) := post_bnd_eq
theorem p_cst {d : D} : Post okE ex (cst d g) = okE (.fro d) g := (Eq.refl (okE (.fro d) g)).trans rfl
def vrR (i : Nat) (g : List Sl) : Option Sl → Res (EV × List Sl)
  | some (.fro d) => .ok (.fro d, g)
  | some (.own _) => .ok (.var i, g)
  | some (.bor _) => .ok (.var i, g)
  | _ => .stuck
theorem p_vr {i : Nat} : Post okE ex (vr i g) = Post okE ex (vrR i g g[i]?) := by
  unfold vr
  cases g[i]? with
  | none => rfl
  | some s => cases s <;> rfl
def vrSR (i : Nat) (g : List Sl) : Option Sl → Res (EV × List Sl)
  | some (.scr _) => .ok (.var i, g)
  | _ => .stuck
theorem p_vrS {i : Nat} : Post okE ex (vrS i g) = Post okE ex (vrSR i g g[i]?) := by
  unfold vrS
  cases g[i]? with
  | none => rfl
  | some s => cases s <;> rfl
def scrR (n : Nat) (g : List Sl) : Option Sl → Res (EV × List Sl)
  | some (.scr ns) => .ok (.own ((ns.take n).map PyData.int), g)
  | _ => .stuck
theorem p_scr {i n : Nat} : Post okE ex (scrE i n g) = Post okE ex (scrR n g g[i]?) := by
  unfold scrE
  cases g[i]? with
  | none => rfl
  | some s => cases s <;> rfl
/-- an outcome -/
def cO (ok : EV → List Sl → Prop) : Option Out → List Sl → Prop
  | some o, g => ok o.ev g
  | none, _ => False
theorem cO_s {o : Out} : cO okE (some o) g = okE o.ev g := (Eq.refl (okE o.ev g)).trans rfl
theorem p_app1 {f : D → Option Out} {x : EV} : Post okE ex (app1 f x g) = cO okE ((look g x).bind f) g := by
  rw [app1_eq]
  cases (look g x).bind f <;> rfl
theorem p_app2 {f : D → D → Option Out} {x y : EV} : Post okE ex (app2 f x y g) = cO okE ((look g x).bind fun d => (look g y).bind fun e => f d e) g := by
  rw [app2_eq]
  cases ((look g x).bind fun d => (look g y).bind fun e => f d e) <;> rfl
theorem p_appN {f : List D → Option Out} {xs : List EV} : Post okE ex (appN f xs g) = cO okE ((lookL g xs).bind f) g := by
  rw [appN_eq]
  cases (lookL g xs).bind f <;> rfl
theorem p_op1 {f : D → Option Out} {da : SM EV} : Post okE ex (op1 f da g) = Post (cB (fun ev => app1 f (frz ev)) okE ex) ex (da g) := post_bnd_eq
theorem p_op2 {f : D → D → Option Out} {da db : SM EV} : Post okE ex (op2 f da db g) = Post (cB (fun ev => onE db fun y => app2 f (frz ev) y) okE ex) ex (da g) := post_bnd_eq
theorem p_opN {f : List D → Option Out} {da : SM (List EV)} : Post okE ex (opN f da g) = Post (cB (appN f) okE ex) ex (da g) := post_bnd_eq
theorem p_argsNil : Post okA ex (argsNil g) = okA [] g := (Eq.refl (okA [] g)).trans rfl
theorem p_argsCons {da : SM EV} {dr : SM (List EV)} : Post okA ex (argsCons da dr g) = Post (cB (fun ev => bnd dr fun xs => ret (frz ev :: xs)) okA ex) ex (da g) := post_bnd_eq
theorem p_argsW {da : SM EV} {dr : SM (List EV)} : Post okA ex (argsW da dr g) = Post (cB (fun ev => bnd dr fun xs => ret (ev :: xs)) okA ex) ex (da g) := post_bnd_eq
def escR (i : Nat) (g : List Sl) : Option Sl → Res (D × List Sl)
  | some (.fro d) => .ok (d, g)
  | some (.own ds) => .ok (.list ds, g.set i (.fro (.list ds)))
  | _ => .stuck
theorem p_esc_f {d : D} : Post okD ex (esc (.fro d) g) = okD d g := (Eq.refl (okD d g)).trans rfl
theorem p_esc_o {ds : List D} : Post okD ex (esc (.own ds) g) = okD (.list ds) g := (Eq.refl (okD (.list ds) g)).trans rfl
theorem p_esc_v {i : Nat} : Post okD ex (esc (.var i) g) = Post okD ex (escR i g g[i]?) := by
  show Post okD ex (match g[i]? with
    | some (.fro d) => Res.ok (d, g)
    | some (.own ds) => .ok (.list ds, g.set i (.fro (.list ds)))
    | _ => .stuck) = _
  cases g[i]? with
  | none => rfl
  | some s => cases s <;> rfl
theorem p_escL_n : Post okL ex (escL [] g) = okL [] g := (Eq.refl (okL [] g)).trans rfl
theorem p_escL_c {e : EV} {es : List EV} : Post okL ex (escL (e :: es) g) = Post (cB (fun d => bnd (escL es) fun ds => ret (d :: ds)) okL ex) ex (esc e g) := post_bnd_eq
def cTup (ok : EV → List Sl → Prop) (ds : List D) (g : List Sl) : Prop := if ds.length ≤ SZ then ok (.fro (.tuple ds)) g else False
def cLst (ok : EV → List Sl → Prop) (ds : List D) (g : List Sl) : Prop := if ds.length ≤ SZ then ok (.own ds) g else False
theorem c_Tup {ds : List D} : cTup okE ds g = if ds.length ≤ SZ then okE (.fro (.tuple ds)) g else False := (Eq.refl (cTup okE ds g)).trans rfl
theorem c_Lst {ds : List D} : cLst okE ds g = if ds.length ≤ SZ then okE (.own ds) g else False := (Eq.refl (cLst okE ds g)).trans rfl
def cEscL (ok : List D → List Sl → Prop) (ex : Nat → Str → D → List Sl → Prop) (xs : List EV) (g : List Sl) : Prop := Post ok ex (escL xs g)
theorem c_EscL {xs : List EV} : cEscL okL ex xs g = Post okL ex (escL xs g) := (Eq.refl (cEscL okL ex xs g)).trans rfl
theorem p_tup {da : SM (List EV)} : Post okE ex (tupE da g) = Post (cEscL (cTup okE) ex) ex (da g) := by
  refine post_bnd_eq.trans (congrArg (fun k => Post k ex (da g)) (funext fun xs => funext fun g1 => post_bnd_eq.trans (congrArg (fun k => Post k ex (escL xs g1)) (funext fun ds => funext fun g2 => ?_))))
  unfold cTup
  by_cases h : ds.length ≤ SZ
  · rw [if_pos h, if_pos h]; rfl
  · rw [if_neg h, if_neg h]; rfl
theorem p_lst {da : SM (List EV)} : Post okE ex (lstE da g) = Post (cEscL (cLst okE) ex) ex (da g) := by
  refine post_bnd_eq.trans (congrArg (fun k => Post k ex (da g)) (funext fun xs => funext fun g1 => post_bnd_eq.trans (congrArg (fun k => Post k ex (escL xs g1)) (funext fun ds => funext fun g2 => ?_))))
  unfold cLst
  by_cases h : ds.length ≤ SZ
  · rw [if_pos h, if_pos h]; rfl
  · rw [if_neg h, if_neg h]; rfl
def cTs (ok : Bool → List Sl → Prop) : Option D → List Sl → Prop
  | some (.bool b), g => ok b g
  | _, _ => False
def cTst (ok : Bool → List Sl → Prop) (ev : EV) (g : List Sl) : Prop := cTs ok (look g (frz ev)) g
theorem c_Tst {ev : EV} : cTst okB ev g = cTs okB (look g (frz ev)) g := (Eq.refl (cTst okB ev g)).trans rfl
theorem c_Ts {b : Bool} : cTs okB (some (.bool b)) g = okB b g := (Eq.refl (okB b g)).trans rfl
theorem p_tst {da : SM EV} : Post okB ex (tstE da g) = Post (cTst okB) ex (da g) := by
  refine post_bnd_eq.trans (congrArg (fun k => Post k ex (da g)) (funext fun ev => funext fun g1 => ?_))
  unfold cTst
  show Post okB ex (match look g1 (frz ev) with
    | some (.bool b) => Res.ok (b, g1)
    | _ => .stuck) = _
  cases look g1 (frz ev) with
  | none => rfl
  | some d => cases d <;> rfl
def cTr (ok : Bool → List Sl → Prop) : Option Bool → List Sl → Prop
  | some b, g => ok b g
  | none, _ => False
def cTru (ok : Bool → List Sl → Prop) (ev : EV) (g : List Sl) : Prop := cTr ok ((look g (frz ev)).bind truD) g
theorem c_Tru {ev : EV} : cTru okB ev g = cTr okB ((look g (frz ev)).bind truD) g := (Eq.refl (cTru okB ev g)).trans rfl
theorem c_Tr {b : Bool} : cTr okB (some b) g = okB b g := (Eq.refl (okB b g)).trans rfl
theorem p_tru {da : SM EV} : Post okB ex (truE da g) = Post (cTru okB) ex (da g) := by
  refine post_bnd_eq.trans (congrArg (fun k => Post k ex (da g)) (funext fun ev => funext fun g1 => ?_))
  unfold cTru
  show Post okB ex (match (look g1 (frz ev)).bind truD with
    | some b => Res.ok (b, g1)
    | none => .stuck) = _
  cases (look g1 (frz ev)).bind truD <;> rfl
/-- both ways -/
def cI (a b : SM α) (ok : α → List Sl → Prop) (ex : Nat → Str → D → List Sl → Prop) : Bool → List Sl → Prop := fun c g => if c = true then Post ok ex (a g) else Post ok ex (b g)
theorem c_It {a b : SM α} : cI a b ok ex true g = Post ok ex (a g) := (Eq.refl (Post ok ex (a g))).trans rfl
theorem c_If {a b : SM α} : cI a b ok ex false g = Post ok ex (b g) := (Eq.refl (Post ok ex (b g))).trans rfl
theorem p_if {t : SM Bool} {a b : SM α} : Post ok ex (bnd t (fun c => if c = true then a else b) g) = Post (cI a b ok ex) ex (t g) :=
  post_bnd_eq.trans (congrArg (fun k => Post k ex (t g)) (funext fun c => funext fun g1 => by cases c <;> rfl))
theorem p_andT {a b : SM Bool} : Post okB ex (andT a b g) = Post (cI b (ret false) okB ex) ex (a g) := p_if
theorem p_orT {a b : SM Bool} : Post okB ex (orT a b g) = Post (cI (ret true) b okB ex) ex (a g) := p_if
theorem p_ifE {t : SM Bool} {a b : SM EV} : Post okE ex (ifE t a b g) = Post (cI a b okE ex) ex (t g) := p_if
theorem p_ifS {t : SM Bool} {a b : SM Fl} : Post okF ex (ifS t a b g) = Post (cI a b okF ex) ex (t g) := p_if
theorem p_andV {a b : SM EV} : Post okE ex (andV a b g) = Post (cI b (ret (.fro (.bool false))) okE ex) ex (tstE a g) := p_if
theorem p_orV {a b : SM EV} : Post okE ex (orV a b g) = Post (cI (ret (.fro (.bool true))) b okE ex) ex (tstE a g) := p_if
def cN (ok : Bool → List Sl → Prop) : Bool → List Sl → Prop := fun c g => ok (!c) g
theorem c_N {c : Bool} : cN okB c g = okB (!c) g := (Eq.refl (okB (!c) g)).trans rfl
def cNV (ok : EV → List Sl → Prop) : Bool → List Sl → Prop := fun c g => ok (.fro (.bool (!c))) g
theorem c_NV {c : Bool} : cNV okE c g = okE (.fro (.bool (!c))) g := (Eq.refl (okE (.fro (.bool (!c))) g)).trans rfl
theorem p_notT {a : SM Bool} : Post okB ex (notT a g) = Post (cN okB) ex (a g) := post_bnd_eq
theorem p_notV {a : SM EV} : Post okE ex (notV a g) = Post (cNV okE) ex (tstE a g) := post_bnd_eq
theorem p_notX {a : SM EV} : Post okE ex (notX a g) = Post (cNV okE) ex (truE a g) := post_bnd_eq
def cBV (ok : EV → List Sl → Prop) : Bool → List Sl → Prop := fun c g => ok (.fro (.bool c)) g
theorem c_V {c : Bool} : cBV okE c g = okE (.fro (.bool c)) g := (Eq.refl (okE (.fro (.bool c)) g)).trans rfl
theorem p_valT {a : SM Bool} : Post okE ex (valT a g) = Post (cBV okE) ex (a g) := post_bnd_eq
def chX (f : D → D → Option Out) (f' : D → D → Option Out) (dc : SM EV) (x y : EV) : SM EV := bnd (tstE (app2 f x y)) fun k => if k then onE dc fun z => app2 f' y z else ret (.fro (.bool false))
theorem p_chX {f f' : D → D → Option Out} {dc : SM EV} {x y : EV} : Post okE ex (chX f f' dc x y g) = Post (cI (onE dc fun z => app2 f' y z) (ret (.fro (.bool false))) okE ex) ex (tstE (app2 f x y) g) := p_if
theorem p_chE {f f' : D → D → Option Out} {da db dc : SM EV} : Post okE ex (chE f f' da db dc g) = Post (cB (fun ev => onE db fun y => chX f f' dc (frz ev) y) okE ex) ex (da g) := post_bnd_eq
def cSeq (t : SM Fl) (ok : Fl → List Sl → Prop) (ex : Nat → Str → D → List Sl → Prop) : Fl → List Sl → Prop
  | .nx, g => Post ok ex (t g)
  | .rt e, g => ok (.rt e) g
  | .bk, g => ok .bk g
  | .ct, g => ok .ct g
theorem c_Sn {t : SM Fl} : cSeq t okF ex .nx g = Post okF ex (t g) := (Eq.refl (Post okF ex (t g))).trans rfl
theorem c_Sr {t : SM Fl} {e : EV} : cSeq t okF ex (.rt e) g = okF (.rt e) g := (Eq.refl (okF (.rt e) g)).trans rfl
theorem c_Sb {t : SM Fl} : cSeq t okF ex .bk g = okF .bk g := (Eq.refl (okF .bk g)).trans rfl
theorem c_Sc {t : SM Fl} : cSeq t okF ex .ct g = okF .ct g := (Eq.refl (okF .ct g)).trans rfl
theorem p_seqS {s t : SM Fl} : Post okF ex (seqS s t g) = Post (cSeq t okF ex) ex (s g) :=
  post_bnd_eq.trans (congrArg (fun k => Post k ex (s g)) (funext fun fl => funext fun g1 => by cases fl <;> rfl))
theorem p_nxS : Post okF ex (nxS g) = okF .nx g := (Eq.refl (okF .nx g)).trans rfl
theorem p_bkS : Post okF ex (bkS g) = okF .bk g := (Eq.refl (okF .bk g)).trans rfl
theorem p_ctS : Post okF ex (ctS g) = okF .ct g := (Eq.refl (okF .ct g)).trans rfl
theorem p_exprS {da : SM EV} : Post okF ex (exprS da g) = Post (cB (fun _ => ret .nx) okF ex) ex (da g) := post_bnd_eq
theorem p_asgS {i : Nat} {da : SM EV} : Post okF ex (asgS i da g) = Post (cB (fun ev => bnd (mvE ev) fun s => setS i s) okF ex) ex (da g) := post_bnd_eq
theorem p_mvE_f {d : D} : Post okS ex (mvE (.fro d) g) = okS (.fro d) g := (Eq.refl (okS (.fro d) g)).trans rfl
theorem p_mvE_o {ds : List D} : Post okS ex (mvE (.own ds) g) = okS (.own ds) g := (Eq.refl (okS (.own ds) g)).trans rfl
theorem p_mvE_v {j : Nat} : Post okS ex (mvE (.var j) g) = Post (cB (fun d => ret (.fro d)) okS ex) ex (esc (.var j) g) := post_bnd_eq
def retR (i : Nat) (g : List Sl) : Option Sl → Res (Fl × List Sl)
  | some (.own ds) => .ok (.rt (.own ds), g.set i .un)
  | some (.fro d) => .ok (.rt (.fro d), g)
  | _ => .stuck
theorem p_retE_f {d : D} : Post okF ex (retE (.fro d) g) = okF (.rt (.fro d)) g := (Eq.refl (okF (.rt (.fro d)) g)).trans rfl
theorem p_retE_o {ds : List D} : Post okF ex (retE (.own ds) g) = okF (.rt (.own ds)) g := (Eq.refl (okF (.rt (.own ds)) g)).trans rfl
theorem p_retE_v {i : Nat} : Post okF ex (retE (.var i) g) = Post okF ex (retR i g g[i]?) := by
  show Post okF ex (retV i g) = _
  unfold retV
  cases g[i]? with
  | none => rfl
  | some s => cases s <;> rfl
theorem p_retS {da : SM EV} : Post okF ex (retS da g) = Post (cB retE okF ex) ex (da g) := post_bnd_eq
def setR (i : Nat) (s : Sl) (g : List Sl) : Option Sl → Res (Fl × List Sl)
  | some (.bor _) => .stuck
  | some _ => .ok (.nx, g.set i s)
  | none => .stuck
theorem setR_o {i : Nat} {s : Sl} {o : Option D} : setR i s g (some (opn o)) = .ok (.nx, g.set i s) := by cases o <;> rfl
theorem setR_f {i : Nat} {s : Sl} {d : D} : setR i s g (some (.fro d)) = .ok (.nx, g.set i s) := (Eq.refl (setR i s g (some (.fro d)))).trans rfl
theorem setR_w {i : Nat} {s : Sl} {d : List D} : setR i s g (some (.own d)) = .ok (.nx, g.set i s) := (Eq.refl (setR i s g (some (.own d)))).trans rfl
theorem setR_u {i : Nat} {s : Sl} : setR i s g (some .un) = .ok (.nx, g.set i s) := (Eq.refl (setR i s g (some .un))).trans rfl
theorem p_setS {i : Nat} {s : Sl} : Post okF ex (setS i s g) = Post okF ex (setR i s g g[i]?) := by
  unfold setS
  cases g[i]? with
  | none => rfl
  | some s => cases s <;> rfl
theorem p_setL_n : Post okU ex (setL [] [] g) = okU () g := (Eq.refl (okU () g)).trans rfl
theorem p_setL_c {i : Nat} {is : List Nat} {d : D} {ds : List D} : Post okU ex (setL (i :: is) (d :: ds) g) = Post (cB (fun _ => setL is ds) okU ex) ex (setS i (.fro d) g) := post_bnd_eq
theorem p_put1 {i : Nat} {d : D} : Post okU ex (Tg.put (.one i) d g) = Post (cB (fun _ => ret ()) okU ex) ex (setS i (.fro d) g) := post_bnd_eq
theorem p_putT {is : List Nat} {ds : List D} : Post okU ex (Tg.put (.tup is) (.tuple ds) g) = Post okU ex (setL is ds g) := (Eq.refl (Post okU ex (setL is ds g))).trans rfl
theorem p_endF_n {k : SM Fl} : Post okF ex (endF .nx k g) = Post okF ex (k g) := (Eq.refl (Post okF ex (k g))).trans rfl
theorem p_endF_c {k : SM Fl} : Post okF ex (endF .ct k g) = Post okF ex (k g) := (Eq.refl (Post okF ex (k g))).trans rfl
theorem p_endF_b {k : SM Fl} : Post okF ex (endF .bk k g) = okF .nx g := (Eq.refl (okF .nx g)).trans rfl
theorem p_endF_r {k : SM Fl} {e : EV} : Post okF ex (endF (.rt e) k g) = okF (.rt e) g := (Eq.refl (okF (.rt e) g)).trans rfl
def cFor (t : Tg) (b : SM Fl) (ok : Fl → List Sl → Prop) (ex : Nat → Str → D → List Sl → Prop) : List D → List Sl → Prop := fun ds g => Post ok ex (forL t b ds g)
theorem c_For {t : Tg} {b : SM Fl} {ds : List D} : cFor t b okF ex ds g = Post okF ex (forL t b ds g) := (Eq.refl (cFor t b okF ex ds g)).trans rfl
theorem p_forS {it : SM (List D)} {t : Tg} {b : SM Fl} : Post okF ex (forS it t b g) = Post (cFor t b okF ex) ex (it g) := post_bnd_eq
theorem p_whS {fu : List Sl → Nat} {t : SM Bool} {b : SM Fl} : Post okF ex (whS fu t b g) = Post okF ex (whL t b (fu g) g) := (Eq.refl (Post okF ex (whL t b (fu g) g))).trans rfl
def escAR (i : Nat) (g : List Sl) : Option Sl → Res (Sl × List Sl)
  | some (.fro d) => .ok (.fro d, g)
  | some (.own ds) => .ok (.fro (.list ds), g.set i (.fro (.list ds)))
  | some (.scr ns) => .ok (.scr ns, g)
  | _ => .stuck
theorem p_escA_f {d : D} : Post okS ex (escA (.fro d) g) = okS (.fro d) g := (Eq.refl (okS (.fro d) g)).trans rfl
theorem p_escA_o {ds : List D} : Post okS ex (escA (.own ds) g) = okS (.fro (.list ds)) g := (Eq.refl (okS (.fro (.list ds)) g)).trans rfl
theorem p_escA_v {i : Nat} : Post okS ex (escA (.var i) g) = Post okS ex (escAR i g g[i]?) := by
  show Post okS ex (match g[i]? with
    | some (.fro d) => Res.ok (.fro d, g)
    | some (.own ds) => .ok (.fro (.list ds), g.set i (.fro (.list ds)))
    | some (.scr ns) => .ok (.scr ns, g)
    | _ => .stuck) = _
  cases g[i]? with
  | none => rfl
  | some s => cases s <;> rfl
theorem p_escAL_n : Post okT ex (escAL [] g) = okT [] g := (Eq.refl (okT [] g)).trans rfl
theorem p_escAL_c {e : EV} {es : List EV} : Post okT ex (escAL (e :: es) g) = Post (cB (fun d => bnd (escAL es) fun ds => ret (d :: ds)) okT ex) ex (escA e g) := post_bnd_eq
/-- an answer -/
def cAn (ok : EV → List Sl → Prop) (ex : Nat → Str → D → List Sl → Prop) : FR → List Sl → Prop
  | .ok ev _, g => ok ev g
  | .exn k f p _, g => ex k f p g
  | .stuck, _ => False
theorem c_Ao {ev : EV} {b : Option (List D)} : cAn okE ex (.ok ev b) g = okE ev g := (Eq.refl (okE ev g)).trans rfl
theorem c_Ae {k : Nat} {f : Str} {p : D} {b : Option (List D)} : cAn okE ex (.exn k f p b) g = ex k f p g := (Eq.refl (ex k f p g)).trans rfl
def cAs (F : Fd) (ok : EV → List Sl → Prop) (ex : Nat → Str → D → List Sl → Prop) : List Sl → List Sl → Prop := fun as g => cAn ok ex (F as) g
theorem c_As {F : Fd} {as : List Sl} : cAs F okE ex as g = cAn okE ex (F as) g := (Eq.refl (cAs F okE ex as g)).trans rfl
def cCall (F : Fd) (ok : EV → List Sl → Prop) (ex : Nat → Str → D → List Sl → Prop) : List EV → List Sl → Prop := fun evs g => Post (cAs F ok ex) ex (escAL evs g)
theorem c_Call {F : Fd} {evs : List EV} : cCall F okE ex evs g = Post (cAs F okE ex) ex (escAL evs g) := (Eq.refl (cCall F okE ex evs g)).trans rfl
theorem p_callE {F : Fd} {da : SM (List EV)} : Post okE ex (callE F da g) = Post (cCall F okE ex) ex (da g) := by
  refine post_bnd_eq.trans (congrArg (fun k => Post k ex (da g)) (funext fun evs => funext fun g1 => post_bnd_eq.trans (congrArg (fun k => Post k ex (escAL evs g1)) (funext fun as => funext fun g2 => ?_))))
  show Post okE ex (ansE (F as) g2) = cAn okE ex (F as) g2
  cases F as <;> rfl
def cBa (s : List D → Sl) (i : Nat) (ok : EV → List Sl → Prop) (ex : Nat → Str → D → List Sl → Prop) : FR → List Sl → Prop
  | .ok ev (some ds'), g => ok ev (g.set i (s ds'))
  | .exn k x p (some ds'), g => ex k x p (g.set i (s ds'))
  | _, _ => False
theorem c_Bo {s : List D → Sl} {i : Nat} {ev : EV} {ds : List D} : cBa s i okE ex (.ok ev (some ds)) g = okE ev (g.set i (s ds)) := (Eq.refl (okE ev (g.set i (s ds)))).trans rfl
theorem c_Be {s : List D → Sl} {i : Nat} {k : Nat} {f : Str} {p : D} {ds : List D} : cBa s i okE ex (.exn k f p (some ds)) g = ex k f p (g.set i (s ds)) := (Eq.refl (ex k f p (g.set i (s ds)))).trans rfl
def cBr (F : Fd) (i : Nat) (as : List Sl) (ok : EV → List Sl → Prop) (ex : Nat → Str → D → List Sl → Prop) (g : List Sl) : Option Sl → Prop
  | some (.own ds) => cBa .own i ok ex (F (.bor ds :: as)) g
  | some (.bor ds) => cBa .bor i ok ex (F (.bor ds :: as)) g
  | _ => False
theorem c_Brw {F : Fd} {i : Nat} {as : List Sl} {ds : List D} : cBr F i as okE ex g (some (.own ds)) = cBa .own i okE ex (F (.bor ds :: as)) g := (Eq.refl (cBr F i as okE ex g (some (.own ds)))).trans rfl
theorem c_Brb {F : Fd} {i : Nat} {as : List Sl} {ds : List D} : cBr F i as okE ex g (some (.bor ds)) = cBa .bor i okE ex (F (.bor ds :: as)) g := (Eq.refl (cBr F i as okE ex g (some (.bor ds)))).trans rfl
theorem p_bor {F : Fd} {i : Nat} {as : List Sl} : Post okE ex (borCall F i as g) = cBr F i as okE ex g g[i]? := by
  rw [borCall_eq]
  cases g[i]? with
  | none => rfl
  | some s =>
    cases s with
    | own ds =>
      show Post okE ex (ansB .own i g (F (.bor ds :: as))) = cBa .own i okE ex (F (.bor ds :: as)) g
      cases F (.bor ds :: as) with
      | ok ev b => cases b <;> rfl
      | exn k x p b => cases b <;> rfl
      | stuck => rfl
    | bor ds =>
      show Post okE ex (ansB .bor i g (F (.bor ds :: as))) = cBa .bor i okE ex (F (.bor ds :: as)) g
      cases F (.bor ds :: as) with
      | ok ev b => cases b <;> rfl
      | exn k x p b => cases b <;> rfl
      | stuck => rfl
    | _ => rfl
def cCB (F : Fd) (ok : EV → List Sl → Prop) (ex : Nat → Str → D → List Sl → Prop) : List EV → List Sl → Prop
  | .var i :: r, g => Post (cB (fun as => borCall F i as) ok ex) ex (escAL r g)
  | _, _ => False
theorem c_CB {F : Fd} {i : Nat} {r : List EV} : cCB F okE ex (.var i :: r) g = Post (cB (fun as => borCall F i as) okE ex) ex (escAL r g) := (Eq.refl (cCB F okE ex (.var i :: r) g)).trans rfl
theorem p_callB {F : Fd} {da : SM (List EV)} : Post okE ex (callB F da g) = Post (cCB F okE ex) ex (da g) := by
  refine post_bnd_eq.trans (congrArg (fun k => Post k ex (da g)) (funext fun evs => funext fun g1 => ?_))
  cases evs with
  | nil => rfl
  | cons e r =>
    cases e with
    | var i => exact post_bnd_eq
    | _ => rfl
/-- a list of items -/
def cRn (ok : List D → List Sl → Prop) : Option (List D) → List Sl → Prop
  | some ds, g => ok ds g
  | none, _ => False
theorem c_Rn {ds : List D} : cRn okL (some ds) g = okL ds g := (Eq.refl (okL ds g)).trans rfl
theorem p_seqS' {d : D} : Post okL ex (seqS' d g) = cRn okL (seqOf d) g := by
  unfold seqS'
  cases seqOf d <;> rfl
theorem p_seqE {da : SM EV} : Post okL ex (seqE da g) = Post (cB (fun ev => bnd (esc (frz ev)) seqS') okL ex) ex (da g) := post_bnd_eq
def cRng (f : List D → Option (List D)) (ok : List D → List Sl → Prop) : List EV → List Sl → Prop := fun evs g => cRn ok ((lookL g evs).bind f) g
theorem c_Rng {f : List D → Option (List D)} {evs : List EV} : cRng f okL evs g = cRn okL ((lookL g evs).bind f) g := (Eq.refl (cRng f okL evs g)).trans rfl
theorem p_rng {f : List D → Option (List D)} {da : SM (List EV)} : Post okL ex (rngE f da g) = Post (cRng f okL) ex (da g) := by
  refine post_bnd_eq.trans (congrArg (fun k => Post k ex (da g)) (funext fun evs => funext fun g1 => ?_))
  unfold cRng
  cases (lookL g1 evs).bind f <;> rfl
theorem p_slE {da : SM EV} {lo hi : SM (Option Int)} : Post okE ex (slE da lo hi g) = Post (cB (fun ev => bnd lo fun l => bnd hi fun h => app1 (slF l h) (frz ev)) okE ex) ex (da g) := post_bnd_eq
def cPa (ok : Option Int → List Sl → Prop) : Option D → List Sl → Prop
  | some (.int i), g => ok (some i) g
  | _, _ => False
def cPart (ok : Option Int → List Sl → Prop) (ev : EV) (g : List Sl) : Prop := cPa ok (look g (frz ev)) g
theorem c_Part {ev : EV} : cPart okO ev g = cPa okO (look g (frz ev)) g := (Eq.refl (cPart okO ev g)).trans rfl
theorem c_Pa {i : Int} : cPa okO (some (.int i)) g = okO (some i) g := (Eq.refl (okO (some i) g)).trans rfl
theorem p_part {da : SM EV} : Post okO ex (partE da g) = Post (cPart okO) ex (da g) := by
  refine post_bnd_eq.trans (congrArg (fun k => Post k ex (da g)) (funext fun ev => funext fun g1 => ?_))
  unfold cPart
  show Post okO ex (match look g1 (frz ev) with
    | some (.int i) => Res.ok (some i, g1)
    | _ => .stuck) = _
  cases look g1 (frz ev) with
  | none => rfl
  | some d => cases d <;> rfl
def muR (g : List Sl) : Option Sl → Res (Unit × List Sl)
  | some (.own _) => .ok ((), g)
  | some (.bor _) => .ok ((), g)
  | _ => .stuck
theorem p_mu {i : Nat} : Post okU ex (muG i g) = Post okU ex (muR g g[i]?) := by
  unfold muG
  cases g[i]? with
  | none => rfl
  | some s => cases s <;> rfl
def slO (s : List D → Sl) (i : Nat) (g : List Sl) : Option (List D × D) → Res (EV × List Sl)
  | some (ds', r) => .ok (.fro r, g.set i (s ds'))
  | none => .stuck
theorem slO_s {s : List D → Sl} {i : Nat} {ds : List D} {r : D} : slO s i g (some (ds, r)) = .ok (.fro r, g.set i (s ds)) := (Eq.refl (slO s i g (some (ds, r)))).trans rfl
def slR (i : Nat) (f : List D → Option (List D × D)) (g : List Sl) : Option Sl → Res (EV × List Sl)
  | some (.own ds) => slO .own i g (f ds)
  | some (.bor ds) => slO .bor i g (f ds)
  | _ => .stuck
theorem slR_w {i : Nat} {f : List D → Option (List D × D)} {ds : List D} : slR i f g (some (.own ds)) = slO .own i g (f ds) := (Eq.refl (slO .own i g (f ds))).trans rfl
theorem slR_b {i : Nat} {f : List D → Option (List D × D)} {ds : List D} : slR i f g (some (.bor ds)) = slO .bor i g (f ds) := (Eq.refl (slO .bor i g (f ds))).trans rfl
theorem p_slot {i : Nat} {f : List D → Option (List D × D)} : Post okE ex (slotL i f g) = Post okE ex (slR i f g g[i]?) := by
  unfold slotL
  cases g[i]? with
  | none => rfl
  | some s =>
    cases s with
    | own ds =>
      show Post okE ex (match f ds with
        | some (ds', r) => Res.ok (EV.fro r, g.set i (.own ds'))
        | none => .stuck) = Post okE ex (slO .own i g (f ds))
      cases f ds <;> rfl
    | bor ds =>
      show Post okE ex (match f ds with
        | some (ds', r) => Res.ok (EV.fro r, g.set i (.bor ds'))
        | none => .stuck) = Post okE ex (slO .bor i g (f ds))
      cases f ds <;> rfl
    | _ => rfl
theorem p_popE {i : Nat} : Post okE ex (popE i g) = Post (cB (fun _ => slotL i popF) okE ex) ex (muG i g) := post_bnd_eq
theorem p_apE {i : Nat} {da : SM EV} : Post okE ex (apE i da g) = Post (cB (fun _ => onE da fun ev => bnd (esc ev) fun d => slotL i (appF d)) okE ex) ex (muG i g) := post_bnd_eq
def cRa (ex : Nat → Str → D → List Sl → Prop) (k : Nat) (f : Str) : Option D → List Sl → Prop
  | some d, g => ex k f d g
  | none, _ => False
theorem c_Ra {k : Nat} {f : Str} {d : D} : cRa ex k f (some d) g = ex k f d g := (Eq.refl (ex k f d g)).trans rfl
def cRD (ex : Nat → Str → D → List Sl → Prop) (k : Nat) (f : Str) (ini : D → Option D) : D → List Sl → Prop := fun d g => cRa ex k f (ini d) g
theorem c_RD {k : Nat} {f : Str} {ini : D → Option D} {d : D} : cRD ex k f ini d g = cRa ex k f (ini d) g := (Eq.refl (cRD ex k f ini d g)).trans rfl
def cRv (ex : Nat → Str → D → List Sl → Prop) (k : Nat) (f : Str) (ini : D → Option D) : EV → List Sl → Prop := fun ev g => Post (cRD ex k f ini) ex (esc ev g)
theorem c_Rv {k : Nat} {f : Str} {ini : D → Option D} {ev : EV} : cRv ex k f ini ev g = Post (cRD ex k f ini) ex (esc ev g) := (Eq.refl (cRv ex k f ini ev g)).trans rfl
theorem p_raise {k : Nat} {f : Str} {ini : D → Option D} {da : SM EV} : Post okF ex (raiseS k f ini da g) = Post (cRv ex k f ini) ex (da g) := by
  refine post_bnd_eq.trans (congrArg (fun k => Post k ex (da g)) (funext fun ev => funext fun g1 => post_bnd_eq.trans (congrArg (fun k => Post k ex (esc ev g1)) (funext fun d => funext fun g2 => ?_))))
  show Post okF ex (match ini d with
    | some d' => Res.exn k f d' g2
    | none => .stuck) = cRa ex k f (ini d) g2
  cases ini d <;> rfl
theorem p_asgT {t : Tg} {da : SM EV} : Post okF ex (asgT t da g) = Post (cB (fun ev => bnd (esc (frz ev)) fun d => bnd (t.put d) fun _ => ret .nx) okF ex) ex (da g) := post_bnd_eq
def cPar (is : List Nat) (ok : Fl → List Sl → Prop) (ex : Nat → Str → D → List Sl → Prop) : List EV → List Sl → Prop := fun evs g => if is.all (fun i => !(varsIn evs).contains i) = true then Post ok ex (setsS is evs g) else False
theorem c_Par {is : List Nat} {evs : List EV} : cPar is okF ex evs g = if is.all (fun i => !(varsIn evs).contains i) = true then Post okF ex (setsS is evs g) else False := (Eq.refl (cPar is okF ex evs g)).trans rfl
theorem p_par {is : List Nat} {da : SM (List EV)} : Post okF ex (parS is da g) = Post (cPar is okF ex) ex (da g) := by
  refine post_bnd_eq.trans (congrArg (fun k => Post k ex (da g)) (funext fun evs => funext fun g1 => ?_))
  unfold cPar
  by_cases h : is.all (fun i => !(varsIn evs).contains i) = true
  · rw [if_pos h, if_pos h]
  · rw [if_neg h, if_neg h]; rfl
theorem p_setsS_n : Post okF ex (setsS [] [] g) = okF .nx g := (Eq.refl (okF .nx g)).trans rfl
theorem p_setsS_c {i : Nat} {is : List Nat} {e : EV} {es : List EV} : Post okF ex (setsS (i :: is) (e :: es) g) = Post (cB (fun s => bnd (setS i s) fun _ => setsS is es) okF ex) ex (mvP e g) := post_bnd_eq
/-- a list comprehension -/
def cLo (vs : List Nat) (g1 : List Sl) (ok : EV → List Sl → Prop) : List D → List Sl → Prop := fun acc g2 => ok (.own acc) (restG vs g1 g2)
theorem c_Lo {vs : List Nat} {g1 : List Sl} {acc : List D} : cLo vs g1 okE acc g = okE (.own acc) (restG vs g1 g) := (Eq.refl (cLo vs g1 okE acc g)).trans rfl
def cLc (vs : List Nat) (t : Tg) (q : SM Bool) (el : SM EV) (ok : EV → List Sl → Prop) : List D → List Sl → Prop := fun ds g1 => Post (cLo vs g1 ok) (fun _ _ _ _ => False) (lcL vs t q el [] ds (wipeG g1 vs))
theorem c_Lc {vs : List Nat} {t : Tg} {q : SM Bool} {el : SM EV} {ds : List D} : cLc vs t q el okE ds g = Post (cLo vs g okE) (fun _ _ _ _ => False) (lcL vs t q el [] ds (wipeG g vs)) := (Eq.refl (cLc vs t q el okE ds g)).trans rfl
theorem p_lc {vs : List Nat} {it : SM (List D)} {t : Tg} {q : SM Bool} {el : SM EV} : Post okE ex (lcE vs it t q el g) = Post (cLc vs t q el okE) ex (it g) := post_lc_eq
/-- errors taken up -/
def cT (sb : Nat → Nat → Bool) (n : Nat) (hs : List Hdl) (ok : Fl → List Sl → Prop) (ex : Nat → Str → D → List Sl → Prop) : Nat → Str → D → List Sl → Prop := fun k f p g => if 0 < k ∧ k < n then Post ok ex (hand sb hs k f p g) else False
theorem c_T {sb : Nat → Nat → Bool} {n : Nat} {hs : List Hdl} {k : Nat} {f : Str} {p : D} : cT sb n hs okF ex k f p g = if 0 < k ∧ k < n then Post okF ex (hand sb hs k f p g) else False := (Eq.refl (cT sb n hs okF ex k f p g)).trans rfl
theorem p_try {sb : Nat → Nat → Bool} {n : Nat} {b : SM Fl} {hs : List Hdl} : Post okF ex (tryS sb n b hs g) = Post okF (cT sb n hs okF ex) (b g) := post_try_eq
theorem p_hand0 {sb : Nat → Nat → Bool} {k : Nat} {f : Str} {p : D} : Post okF ex (hand sb [] k f p g) = ex k f p g := (Eq.refl (ex k f p g)).trans rfl
def clI (i : Nat) : List Sl → List Sl := fun g' => cleanG (g'.set i .un)
theorem cl_I {i : Nat} : clI i g = cleanG (g.set i .un) := (Eq.refl (clI i g)).trans rfl
def exR (i k : Nat) (f : Str) (p : D) (s : SM Fl) (g : List Sl) : Option Sl → Res (Fl × List Sl)
  | some (.bor _) => .stuck
  | some _ => offS s (clI i) (g.set i (.exc k f p))
  | none => .stuck
theorem exR_o {i k : Nat} {f : Str} {p : D} {s : SM Fl} {o : Option D} : exR i k f p s g (some (opn o)) = offS s (clI i) (g.set i (.exc k f p)) := by cases o <;> rfl
theorem exR_f {i k : Nat} {f : Str} {p : D} {s : SM Fl} {o : D} : exR i k f p s g (some (.fro o)) = offS s (clI i) (g.set i (.exc k f p)) := (Eq.refl (offS s (clI i) (g.set i (.exc k f p)))).trans rfl
theorem exR_u {i k : Nat} {f : Str} {p : D} {s : SM Fl} : exR i k f p s g (some .un) = offS s (clI i) (g.set i (.exc k f p)) := (Eq.refl (offS s (clI i) (g.set i (.exc k f p)))).trans rfl
theorem p_handS {sb : Nat → Nat → Bool} {c i : Nat} {s : SM Fl} {r : List Hdl} {k : Nat} {f : Str} {p : D} : Post okF ex (hand sb ((c, some i, s) :: r) k f p g) = if sb k c = true then Post okF ex (exR i k f p s g g[i]?) else Post okF ex (hand sb r k f p g) := by
  show Post okF ex ((if sb k c = true then excP i k f p s else hand sb r k f p) g) = _
  by_cases h : sb k c = true
  · rw [if_pos h, if_pos h]
    unfold excP
    cases g[i]? with
    | none => rfl
    | some s => cases s <;> rfl
  · rw [if_neg h, if_neg h]
theorem p_handN {sb : Nat → Nat → Bool} {c : Nat} {s : SM Fl} {r : List Hdl} {k : Nat} {f : Str} {p : D} : Post okF ex (hand sb ((c, none, s) :: r) k f p g) = if sb k c = true then Post okF ex (offS s cleanG g) else Post okF ex (hand sb r k f p g) := by
  show Post okF ex ((if sb k c = true then offS s cleanG else hand sb r k f p) g) = _
  by_cases h : sb k c = true
  · rw [if_pos h, if_pos h]
  · rw [if_neg h, if_neg h]
def cOff (cl : List Sl → List Sl) (ok : Fl → List Sl → Prop) : Fl → List Sl → Prop := fun fl g => if okFl fl = true then ok fl (cl g) else False
theorem c_Off {cl : List Sl → List Sl} {fl : Fl} : cOff cl okF fl g = if okFl fl = true then okF fl (cl g) else False := (Eq.refl (cOff cl okF fl g)).trans rfl
theorem p_off {s : SM Fl} {cl : List Sl → List Sl} : Post okF ex (offS s cl g) = Post (cOff cl okF) (fun _ _ _ _ => False) (s g) := post_off_eq
def isR (sb : Nat → Nat → Bool) (n : Nat) (cs : List Nat) (g : List Sl) : Option Sl → Res (EV × List Sl)
  | some (.exc k _ _) => if 0 < k ∧ k < n then .ok (.fro (.bool (cs.any (sb k))), g) else .stuck
  | _ => .stuck
theorem p_isx {sb : Nat → Nat → Bool} {n i : Nat} {cs : List Nat} : Post okE ex (isxE sb n i cs g) = Post okE ex (isR sb n cs g g[i]?) := by
  unfold isxE
  cases g[i]? with
  | none => rfl
  | some s => cases s <;> rfl
def fldR (n : Nat) (x : Str) (g : List Sl) : Option Sl → Res (EV × List Sl)
  | some (.exc k f p) => if 0 < k ∧ k < n ∧ f = x then .ok (.fro p, g) else .stuck
  | _ => .stuck
theorem p_fld {n i : Nat} {x : Str} : Post okE ex (fldE n i x g) = Post okE ex (fldR n x g g[i]?) := by
  unfold fldE
  cases g[i]? with
  | none => rfl
  | some s => cases s <;> rfl
theorem clean_o {o : Option D} : cleanS (opn o) = opn o := by cases o <;> rfl
end
/-- one turn of a comprehension -/
def cS4 (vs : List Nat) (I : Nat → List D → List Sl → Prop) (i : Nat) (acc : List D) : D → List Sl → Prop := fun x g4 => acc.length < SZ ∧ I (i + 1) (acc ++ [x]) (wipeG g4 vs)
theorem c_S4 {vs : List Nat} {I : Nat → List D → List Sl → Prop} {i : Nat} {acc : List D} {x : D} {g : List Sl} : cS4 vs I i acc x g = (acc.length < SZ ∧ I (i + 1) (acc ++ [x]) (wipeG g vs)) := (Eq.refl (cS4 vs I i acc x g)).trans rfl
def cS3 (vs : List Nat) (I : Nat → List D → List Sl → Prop) (i : Nat) (acc : List D) : EV → List Sl → Prop := fun ev g3 => Post (cS4 vs I i acc) (fun _ _ _ _ => False) (esc (frz ev) g3)
theorem c_S3 {vs : List Nat} {I : Nat → List D → List Sl → Prop} {i : Nat} {acc : List D} {ev : EV} {g : List Sl} : cS3 vs I i acc ev g = Post (cS4 vs I i acc) (fun _ _ _ _ => False) (esc (frz ev) g) := (Eq.refl (cS3 vs I i acc ev g)).trans rfl
def cS2 (vs : List Nat) (el : SM EV) (I : Nat → List D → List Sl → Prop) (i : Nat) (acc : List D) : Bool → List Sl → Prop := fun b g2 => if b = true then Post (cS3 vs I i acc) (fun _ _ _ _ => False) (el g2) else I (i + 1) acc (wipeG g2 vs)
theorem c_S2t {vs : List Nat} {el : SM EV} {I : Nat → List D → List Sl → Prop} {i : Nat} {acc : List D} {g : List Sl} : cS2 vs el I i acc true g = Post (cS3 vs I i acc) (fun _ _ _ _ => False) (el g) := (Eq.refl (cS2 vs el I i acc true g)).trans rfl
theorem c_S2f {vs : List Nat} {el : SM EV} {I : Nat → List D → List Sl → Prop} {i : Nat} {acc : List D} {g : List Sl} : cS2 vs el I i acc false g = I (i + 1) acc (wipeG g vs) := (Eq.refl (cS2 vs el I i acc false g)).trans rfl
def cS1 (vs : List Nat) (q : SM Bool) (el : SM EV) (I : Nat → List D → List Sl → Prop) (i : Nat) (acc : List D) : Unit → List Sl → Prop := fun _ g1 => Post (cS2 vs el I i acc) (fun _ _ _ _ => False) (q g1)
theorem c_S1 {vs : List Nat} {q : SM Bool} {el : SM EV} {I : Nat → List D → List Sl → Prop} {i : Nat} {acc : List D} {u : Unit} {g : List Sl} : cS1 vs q el I i acc u g = Post (cS2 vs el I i acc) (fun _ _ _ _ => False) (q g) := (Eq.refl (cS1 vs q el I i acc u g)).trans rfl
-- runs a denotation under Post
end Mw
open PySem L2 Mw
local macro_rules
  | `(tactic| simp_arith [$ts,*]) => `(tactic| simp only [↓Mw.c_B, ↓Mw.p_bnd, ↓Mw.p_ok, ↓Mw.p_exn, ↓Mw.p_stuck, ↓Mw.p_ret, ↓Mw.p_onE, ↓Mw.p_cst, ↓Mw.p_vr, ↓Mw.p_vrS, ↓Mw.p_scr, ↓Mw.cO_s, ↓Mw.p_app1, ↓Mw.p_app2, ↓Mw.p_appN, ↓Mw.p_op1, ↓Mw.p_op2, ↓Mw.p_opN, ↓Mw.p_argsNil, ↓Mw.p_argsCons, ↓Mw.p_argsW, ↓Mw.p_esc_f, ↓Mw.p_esc_o, ↓Mw.p_esc_v, ↓Mw.p_escL_n, ↓Mw.p_escL_c, ↓Mw.c_Tup, ↓Mw.c_Lst, ↓Mw.c_EscL, ↓Mw.p_tup, ↓Mw.p_lst, ↓Mw.c_Tst, ↓Mw.c_Ts, ↓Mw.p_tst, ↓Mw.c_Tru, ↓Mw.c_Tr, ↓Mw.p_tru, ↓Mw.c_It, ↓Mw.c_If, ↓Mw.p_andT, ↓Mw.p_orT, ↓Mw.p_ifE, ↓Mw.p_ifS, ↓Mw.p_andV, ↓Mw.p_orV, ↓Mw.c_N, ↓Mw.c_NV, ↓Mw.p_notT, ↓Mw.p_notV, ↓Mw.p_notX, ↓Mw.c_V, ↓Mw.p_valT, ↓Mw.p_chX, ↓Mw.p_chE, ↓Mw.c_Sn, ↓Mw.c_Sr, ↓Mw.c_Sb, ↓Mw.c_Sc, ↓Mw.p_seqS, ↓Mw.p_nxS, ↓Mw.p_bkS, ↓Mw.p_ctS, ↓Mw.p_exprS, ↓Mw.p_asgS, ↓Mw.p_mvE_f, ↓Mw.p_mvE_o, ↓Mw.p_mvE_v, ↓Mw.p_retE_f, ↓Mw.p_retE_o, ↓Mw.p_retE_v, ↓Mw.p_retS, ↓Mw.p_setS, ↓Mw.p_setL_n, ↓Mw.p_setL_c, ↓Mw.p_put1, ↓Mw.p_putT, ↓Mw.p_endF_n, ↓Mw.p_endF_c, ↓Mw.p_endF_b, ↓Mw.p_endF_r, ↓Mw.c_For, ↓Mw.p_forS, ↓Mw.p_whS, ↓Mw.p_escA_f, ↓Mw.p_escA_o, ↓Mw.p_escA_v, ↓Mw.p_escAL_n, ↓Mw.p_escAL_c, ↓Mw.c_Ao, ↓Mw.c_Ae, ↓Mw.c_As, ↓Mw.c_Call, ↓Mw.p_callE, ↓Mw.c_Bo, ↓Mw.c_Be, ↓Mw.c_Brw, ↓Mw.c_Brb, ↓Mw.p_bor, ↓Mw.c_CB, ↓Mw.p_callB, ↓Mw.c_Rn, ↓Mw.p_seqS', ↓Mw.p_seqE, ↓Mw.c_Rng, ↓Mw.p_rng, ↓Mw.p_slE, ↓Mw.c_Part, ↓Mw.c_Pa, ↓Mw.p_part, ↓Mw.p_mu, ↓Mw.p_slot, ↓Mw.p_popE, ↓Mw.p_apE, ↓Mw.c_Ra, ↓Mw.c_RD, ↓Mw.c_Rv, ↓Mw.p_raise, ↓Mw.p_asgT, ↓Mw.c_Par, ↓Mw.p_par, ↓Mw.p_setsS_n, ↓Mw.p_setsS_c, ↓Mw.c_Lo, ↓Mw.c_Lc, ↓Mw.p_lc, ↓Mw.c_T, ↓Mw.p_try, ↓Mw.p_hand0, ↓Mw.p_handS, ↓Mw.p_handN, ↓Mw.c_Off, ↓Mw.p_off, ↓Mw.p_isx, ↓Mw.p_fld, ↓Mw.c_S1, ↓Mw.c_S2t, ↓Mw.c_S2f, ↓Mw.c_S3, ↓Mw.c_S4,
      Mw.vrR, Mw.vrSR, Mw.scrR, Mw.escR, Mw.retR, Mw.setR_o, Mw.setR_f, Mw.setR_w, Mw.setR_u, Mw.escAR, Mw.muR, Mw.slO_s, Mw.slR_w, Mw.slR_b, Mw.exR_o, Mw.exR_f, Mw.exR_u, Mw.isR, Mw.fldR, Mw.cl_I, Mw.clean_o, Mw.look, Mw.lookL, Mw.slD, Mw.frz, Mw.Out.ev, Mw.truD, Mw.isNon, Mw.isBl, Mw.seqOf, Mw.seqF, Mw.isTy, Mw.mvP, Mw.varsIn, Mw.okFl, Mw.cleanG, Mw.cleanS, Mw.revA, Mw.wipeG, Mw.restG, Mw.keepSl, Mw.flEv, Mw.borOf, Mw.chk, Mw.eqD_ii, Mw.neD_ii, Mw.addD_ii, Mw.subD_ii, Mw.negD_i, Mw.ltD_ii, Mw.leD_ii, Mw.gtD_ii, Mw.geD_ii, Mw.modD_ii, Mw.divD_ii, Mw.mulA_ii, Mw.rngF1_ok, Mw.rngF2_ok, Mw.lenF_l, Mw.lenF_t, Mw.intF_i, Mw.absF_i, Mw.maxF_ii, Mw.minF_ii, Mw.listF_l, Mw.listF_t, Mw.tupleF_l, Mw.tupleF_t, Mw.appF_ok, Mw.popF_app, Mw.ixD_l, Mw.ixD_t, Mw.isNF_d, Mw.noNF_d, Mw.isBD_d, Mw.isiF_i, Mw.isiF_b, Mw.isiF_s, Mw.isiF_l, Mw.isiF_t, Mw.isiF_n,
      List.length_cons, List.length_nil, List.append_nil, List.nil_append, List.cons_append, List.replicate, List.getElem?_cons_zero, List.getElem?_cons_succ, List.set_cons_zero, List.set_cons_succ, List.map_cons, List.map_nil, List.any_cons, List.any_nil, List.headD, Mw.ob_some, Mw.ob_none, Option.map_some, Option.map_none, Option.some.injEq, if_true, if_false, Bool.false_eq_true, reduceCtorEq, decide_true, decide_false, Bool.and_self, Bool.or_self, Bool.not_true, Bool.not_false, Bool.true_or, Bool.false_or, Bool.or_true, Bool.or_false, Bool.true_and, Bool.false_and, Bool.and_true, Bool.and_false, reduceIte, Int.reduceLT, Int.reduceLE, Int.reduceEq, Int.reduceGT, Int.reduceAdd, Int.reduceSub, Int.reduceNeg, Int.reduceMul, Int.zero_add, Nat.reduceAdd, Nat.reduceEqDiff, Nat.reduceLT, Nat.reduceLeDiff, $ts,*])
namespace Mw
open PySem L2

theorem for_wp {t : Tg} {b : SM Fl} {Q : Fl → List Sl → Prop} {ex : Nat → Str → D → List Sl → Prop} (I : Nat → List Sl → Prop) {ds : List D} {g : List Sl} (h0 : I 0 g)
    (step : ∀ i d g, ds[i]? = some d → I i g → Post (fun fl g' => match fl with
      | .nx => I (i + 1) g'
      | .ct => I (i + 1) g'
      | .bk => Q .nx g'
      | .rt v => Q (.rt v) g') ex (bnd (t.put d) (fun _ => b) g)) (fin : ∀ g, I ds.length g → Q .nx g) : Post Q ex (forL t b ds g) := by
  suffices h : ∀ (l : List D) (i : Nat) (g : List Sl), ds.drop i = l → i ≤ ds.length → I i g → Post Q ex (forL t b l g) from h ds 0 g rfl (Nat.zero_le _) h0
  intro l
  induction l with
  | nil =>
    intro i g e hi hI
    have : i = ds.length := by
      have := congrArg List.length e
      rw [List.length_drop, List.length_nil] at this
      omega
    subst this
    exact fin g hI
  | cons d l ih =>
    intro i g e hi hI
    have hlt : i < ds.length := by
      have := congrArg List.length e
      rw [List.length_drop, List.length_cons] at this
      omega
    have e2 : ds[i]? = some d ∧ ds.drop (i + 1) = l := by
      rw [List.drop_eq_getElem_cons hlt] at e
      injection e with e3 e4
      exact ⟨by rw [List.getElem?_eq_getElem hlt, e3], e4⟩
    have st := step i d g e2.1 hI
    refine post_bnd.mpr ?_
    refine post_mono (post_bnd.mp st) (fun u g1 h1 => post_bnd.mpr (post_mono h1 (fun fl g2 h2 => ?_) fun _ _ _ _ q => q)) fun _ _ _ _ q => q
    cases fl with
    | nx => exact ih (i + 1) g2 e2.2 hlt h2
    | ct => exact ih (i + 1) g2 e2.2 hlt h2
    | bk => exact h2
    | rt v => exact h2
/-- a loop: I holds ahead of each turn, J behind it, K where it returns -/
theorem for_br {t : Tg} {b : SM Fl} {Q : Fl → List Sl → Prop} {ex : Nat → Str → D → List Sl → Prop} (I : Nat → List Sl → Prop) (J : List Sl → Prop) (K : EV → List Sl → Prop) {ds : List D} {g : List Sl} (h0 : I 0 g)
    (step : ∀ i d g, ds[i]? = some d → I i g → Post (fun fl g' => match fl with
      | .nx => I (i + 1) g'
      | .ct => I (i + 1) g'
      | .bk => J g'
      | .rt v => K v g') ex (bnd (t.put d) (fun _ => b) g)) (h1 : ∀ g, I ds.length g → J g) (hJ : ∀ g, J g → Q .nx g) (hK : ∀ v g, K v g → Q (.rt v) g) : Post Q ex (forL t b ds g) :=
  for_wp I h0 (fun i d g hi hI => post_mono (step i d g hi hI) (fun fl g' h => by
    cases fl with
    | nx => exact h
    | ct => exact h
    | bk => exact hJ g' h
    | rt v => exact hK v g' h) fun _ _ _ _ q => q) fun g h => hJ g (h1 g h)
/-- a loop that runs to its end -/
theorem for_nx {t : Tg} {b : SM Fl} {Q : Fl → List Sl → Prop} {ex : Nat → Str → D → List Sl → Prop} (I : Nat → List Sl → Prop) {ds : List D} {g : List Sl} (h0 : I 0 g)
    (step : ∀ i d g, ds[i]? = some d → I i g → Post (fun fl g' => match fl with
      | .nx => I (i + 1) g'
      | .ct => I (i + 1) g'
      | .bk => False
      | .rt _ => False) ex (bnd (t.put d) (fun _ => b) g)) (fin : ∀ g, I ds.length g → Q .nx g) : Post Q ex (forL t b ds g) :=
  for_br I (I ds.length) (fun _ _ => False) h0 (fun i d g hi hI => post_mono (step i d g hi hI) (fun fl g' h => by
    cases fl with
    | nx => exact h
    | ct => exact h
    | bk => exact h.elim
    | rt v => exact h) fun _ _ _ _ q => q) (fun _ h => h) fin fun _ _ h => h.elim
theorem lc_wp {vs : List Nat} {t : Tg} {q : SM Bool} {el : SM EV} (I : Nat → List D → List Sl → Prop) {ds acc : List D} {g : List Sl} {ok : List D → List Sl → Prop} (h0 : I 0 acc g)
    (step : ∀ i d acc g, ds[i]? = some d → I i acc g → Post (cS1 vs q el I i acc) (fun _ _ _ _ => False) (t.put d g))
    (fin : ∀ acc g, I ds.length acc g → ok acc g) : Post ok (fun _ _ _ _ => False) (lcL vs t q el acc ds g) := by
  suffices h : ∀ (l : List D) (i : Nat) (acc : List D) (g : List Sl), ds.drop i = l → i ≤ ds.length → I i acc g → Post ok (fun _ _ _ _ => False) (lcL vs t q el acc l g) from h ds 0 acc g rfl (Nat.zero_le _) h0
  intro l
  induction l with
  | nil =>
    intro i acc g e hi hI
    have : i = ds.length := by
      have := congrArg List.length e
      rw [List.length_drop, List.length_nil] at this
      omega
    subst this
    exact fin acc g hI
  | cons d l ih =>
    intro i acc g e hi hI
    have hlt : i < ds.length := by
      have := congrArg List.length e
      rw [List.length_drop, List.length_cons] at this
      omega
    have e2 : ds[i]? = some d ∧ ds.drop (i + 1) = l := by
      rw [List.drop_eq_getElem_cons hlt] at e
      injection e with e3 e4
      exact ⟨by rw [List.getElem?_eq_getElem hlt, e3], e4⟩
    have st := step i d acc g e2.1 hI
    unfold lcL
    refine post_bnd.mpr (post_mono st (fun _ g1 h1 => post_bnd.mpr (post_mono h1 (fun b g2 h2 => ?_) fun _ _ _ _ q => q)) fun _ _ _ _ q => q)
    cases b with
    | false => exact ih (i + 1) acc _ e2.2 hlt h2
    | true =>
      refine post_bnd.mpr (post_mono h2 (fun ev g3 h3 => post_bnd.mpr (post_mono h3 (fun x g4 h4 => ?_) fun _ _ _ _ q => q)) fun _ _ _ _ q => q)
      show Post _ _ ((if acc.length < SZ then lcL vs t q el (acc ++ [x]) l (wipeG g4 vs) else .stuck))
      rw [if_pos h4.1]
      exact ih (i + 1) _ _ e2.2 hlt h4.2
theorem fd_post {n m : Nat} {body : SM Fl} {as : List Sl} {R : FR → Prop} (hn : as.length = n) (h : Post (fun fl g' => ∃ ev, flEv fl = some ev ∧ R (chk as g' (.ok ev (borOf g')))) (fun k f p g' => R (chk as g' (.exn k f p (borOf g')))) (body (as ++ List.replicate m .un))) : R (fdN n m body as) := by
  unfold fdN
  rw [if_pos hn]
  unfold fdD
  cases e : body (as ++ List.replicate m .un) with
  | ok x =>
    obtain ⟨fl, g⟩ := x
    rw [e] at h
    obtain ⟨ev, e1, h⟩ := h
    simp only [e1]
    exact h
  | exn k f p g => rw [e] at h; exact h
  | stuck => rw [e] at h; exact h.elim

/-! ## the tape -/
def Tape (ds : List D) : Prop := ∀ d ∈ ds, ∃ i, d = PyData.int i
theorem tape_nil : Tape [] := fun _ h => nomatch h
theorem tape_app {ds : List D} {i : Int} (h : Tape ds) : Tape (ds ++ [.int i]) := fun d hd => by
  rcases List.mem_append.mp hd with hd | hd
  · exact h d hd
  · rw [List.mem_singleton.mp hd]; exact ⟨i, rfl⟩
def d_take : SM Fl := (seqS (ifS (tstE (op2 eqD (opN lenF (argsCons (vr 0) argsNil)) (cst (.int 0)))) (retS (cst (.int 0))) nxS)
      (retS (op2 modD (opN intF (argsCons (popE 0) argsNil)) (vr 1))))
def F_take : Fd := fdN 2 0 d_take
theorem take_ok {ds : List D} {m : Int} (hm : 0 < m) (T : Tape ds) : ∃ r ds', F_take [.bor ds, .fro (.int m)] = .ok (.fro (.int r)) (some ds') ∧ 0 ≤ r ∧ r < m ∧ Tape ds' := by
  rcases List.eq_nil_or_concat ds with rfl | ⟨l, x, rfl⟩
  · exact ⟨0, [], rfl, Int.le_refl _, hm, tape_nil⟩
  · obtain ⟨i, rfl⟩ := T x (by simp)
    refine ⟨i % m, l, ?_, Int.emod_nonneg _ (by omega), Int.emod_lt_of_pos _ hm, fun d hd => T d (by simp [hd])⟩
    rw [List.concat_eq_append]
    have h0 : ¬ ((l ++ [PyData.int i]).length : Int) = 0 := by simp; omega
    simp_arith! [F_take, d_take, h0, List.getLast?_append, List.getLast?_singleton, Option.some_or, List.dropLast_concat, hm]

theorem seqF_get {ds : List D} {i : Nat} {d : D} (T : Tape ds) (h : ds[i]? = some d) : ∃ n, d = .int n := T d (List.mem_of_getElem? h)
theorem rngL_at : ∀ {lo : Int} {n i : Nat} {d : D}, (rngL lo n)[i]? = some d → d = .int (lo + i) ∧ i < n
  | _, 0, _, _, h => by simp [rngL] at h
  | lo, n + 1, 0, d, h => by
    have : PyData.int lo = d := by simpa [rngL] using h
    exact ⟨by rw [← this]; simp, by omega⟩
  | lo, n + 1, i + 1, d, h => by
    obtain ⟨h1, h2⟩ := rngL_at (lo := lo + 1) (n := n) (i := i) (d := d) (by simpa [rngL] using h)
    exact ⟨by rw [h1]; congr 1; omega, by omega⟩
def d_tape : SM Fl := (seqS (asgS 1 (lstE argsNil))
      (seqS (forS (seqE (scrE 0 40)) (.one 2) (seqS (asgS 3 (op2 modD (opN absF (argsCons (opN intF (argsCons (vr 2) argsNil)) argsNil)) (op2 powD (cst (.int 60)) (cst (.int 15)))))
      (seqS (ifS (tstE (op2 ltD (opN intF (argsCons (vr 2) argsNil)) (cst (.int 0)))) (asgS 3 (op2 addD (op2 mulA (vr 3) (cst (.int 7))) (cst (.int 11)))) nxS)
      (forS (rngE rngF1 (argsCons (cst (.int 18)) argsNil)) (.one 4) (seqS (exprS (apE 1 (op2 modD (opN intF (argsCons (vr 3) argsNil)) (cst (.int 60)))))
      (seqS (asgS 3 (op2 divD (vr 3) (cst (.int 60))))
      (ifS (tstE (op2 eqD (vr 3) (cst (.int 0)))) bkS nxS)))))))
      (seqS (asgS 5 (opN lenF (argsCons (vr 1) argsNil)))
      (retS (lcE [6] (rngE rngF1 (argsCons (vr 5) argsNil)) (.one 6) (ret true) (op2 ixD (vr 1) (op2 subD (op2 subD (vr 5) (cst (.int 1))) (vr 6))))))))
def F_tape : Fd := fdN 1 6 d_tape
theorem tape_in {ns : List Int} {T : List D} {o2 : D} {o4 : Option D} {r : Int} {Q : Fl → List Sl → Prop} {ex : Nat → Str → D → List Sl → Prop} (hT : Tape T) (hl : T.length ≤ 1000)
    (q : ∀ T' o3 o4, Tape T' → T'.length ≤ T.length + 18 → Q .nx [.scr ns, .own T', .fro o2, opn o3, opn o4, .un, .un]) :
    Post Q ex (forL (.one 4) (seqS (exprS (apE 1 (op2 modD (opN intF (argsCons (vr 3) argsNil)) (cst (.int 60)))))
      (seqS (asgS 3 (op2 divD (vr 3) (cst (.int 60))))
      (ifS (tstE (op2 eqD (vr 3) (cst (.int 0)))) bkS nxS))) (rngL 0 (Int.toNat 18)) [.scr ns, .own T, .fro o2, .fro (.int r), opn o4, .un, .un]) := by
  have hlr : (rngL 0 (18 : Int).toNat).length = 18 := rngL_len _ _
  refine for_br (fun i g => ∃ T' r o4, g = [.scr ns, .own T', .fro o2, .fro (.int r), opn o4, .un, .un] ∧ Tape T' ∧ T'.length ≤ T.length + i)
    (fun g => ∃ T' o3 o4, g = [.scr ns, .own T', .fro o2, opn o3, opn o4, .un, .un] ∧ Tape T' ∧ T'.length ≤ T.length + 18) (fun _ _ => False) ⟨T, r, o4, rfl, hT, Nat.le_refl _⟩ ?_ ?_ ?_ fun _ _ h => h.elim
  · rintro i d g hi ⟨T', r, o4, rfl, hT', hl'⟩
    obtain ⟨rfl, hlt⟩ := rngL_at hi
    have h18 : (18 : Int).toNat = 18 := rfl
    have hl2 : T'.length < SZ := by
      have : SZ = 16777216 := rfl
      omega
    have hd : divOk 60 = true := by decide
    simp_arith [hl2, hd]
    have hT2 : Tape (T' ++ [PyData.int (r % 60)]) := tape_app hT'
    have hlen : (T' ++ [PyData.int (r % 60)]).length = T'.length + 1 := by simp
    by_cases c : r / 60 = 0
    · rw [decide_eq_true c]
      simp_arith []
      exact ⟨_, some _, some _, rfl, hT2, by omega⟩
    · rw [decide_eq_false c]
      simp_arith []
      exact ⟨_, _, some _, rfl, hT2, by omega⟩
  · rintro g ⟨T', r, o4, rfl, hT', hl'⟩
    exact ⟨T', some _, o4, rfl, hT', by omega⟩
  · rintro g ⟨T', o3, o4, rfl, hT', hl'⟩
    exact q T' o3 o4 hT' hl'
theorem atI_nat {α : Type} {xs : List α} {i : Int} (h0 : 0 ≤ i) (h1 : i < xs.length) : atI xs i = xs[i.toNat]? := by
  unfold atI ixN
  rw [if_pos h0, if_pos h1]; rfl
theorem pow60 : powD (.int 60) (.int 15) = some (.val (.int 470184984576000000000000000)) := rfl
theorem mulOk_7 (r : Int) (h0 : 0 ≤ r) (h : r < 470184984576000000000000000) : mulOk r 7 = true := by
  unfold mulOk
  have h1 : r.natAbs.log2 ≤ 100 := by
    by_cases hr : r.natAbs = 0
    · rw [hr]; decide
    · have : r.natAbs.log2 < 101 := (Nat.log2_lt hr).mpr (by
        have : (470184984576000000000000000 : Nat) ≤ 2 ^ 101 := by decide
        omega)
      omega
  have h2 : (7 : Int).natAbs.log2 = 2 := by decide
  rw [h2]
  exact decide_eq_true (by omega)
theorem rOk_small {i : Int} (h0 : -4611686018427387904 ≤ i) (h1 : i < 4611686018427387904) : rOk i = true := by
  unfold rOk
  have e : (2 : Int) ^ 62 = 4611686018427387904 := by decide
  rw [e]
  exact decide_eq_true ⟨h0, h1⟩
theorem tape_ok (ns : List Int) : ∃ T, F_tape [.scr ns] = .ok (.own T) none ∧ Tape T := by
  refine fd_post (R := fun r => ∃ T, r = .ok (.own T) none ∧ Tape T) rfl ?_
  simp_arith [d_tape]
  have hlen : ((ns.take 40).map PyData.int).length ≤ 40 := by simp; omega
  refine for_nx (fun i g => ∃ T o2 o3 o4, g = [.scr ns, .own T, opn o2, opn o3, opn o4, .un, .un] ∧ Tape T ∧ T.length ≤ 18 * i) ⟨[], none, none, none, rfl, tape_nil, Nat.le_refl _⟩ ?_ ?_
  · rintro i d g hi ⟨T, o2, o3, o4, rfl, hT, hl⟩
    obtain ⟨z, rfl⟩ : ∃ z, d = .int z := by
      rw [List.getElem?_map] at hi
      cases e : (ns.take 40)[i]? with
      | none => rw [e] at hi; cases hi
      | some z => rw [e] at hi; exact ⟨z, (Option.some.inj hi).symm⟩
    have hi40 : i < 40 := by
      have := (List.getElem?_eq_some_iff.mp hi).1
      omega
    have hm : (0 : Int) < 470184984576000000000000000 := by decide
    have h18 : rOk 18 = true := by decide
    generalize hb : (seqS (exprS (apE 1 (op2 modD (opN intF (argsCons (vr 3) argsNil)) (cst (.int 60)))))
      (seqS (asgS 3 (op2 divD (vr 3) (cst (.int 60))))
      (ifS (tstE (op2 eqD (vr 3) (cst (.int 0)))) bkS nxS))) = body
    simp_arith [pow60, hm, h18]
    by_cases c : z < 0
    · rw [decide_eq_true c]
      simp_arith []
      have hmul := mulOk_7 ((if z < 0 then -z else z) % 470184984576000000000000000) (Int.emod_nonneg _ (by decide)) (Int.emod_lt_of_pos _ hm)
      simp_arith [hmul]
      subst hb
      exact tape_in hT (by omega) fun T' o3 o4 hT' hl' => ⟨T', some _, o3, o4, rfl, hT', by omega⟩
    · rw [decide_eq_false c]
      simp_arith []
      subst hb
      exact tape_in hT (by omega) fun T' o3 o4 hT' hl' => ⟨T', some _, o3, o4, rfl, hT', by omega⟩
  · generalize ((ns.take 40).map PyData.int).length = n at hlen
    intro g h
    obtain ⟨T, o2, o3, o4, e, hT, hl⟩ := h
    subst e
    have hTl : (T.length : Int) ≤ 720 := by omega
    have hr : rOk (T.length : Int) = true := rOk_small (by omega) (by omega)
    simp_arith [hr]
    refine lc_wp (fun i acc g => g = [.scr ns, .own T, opn o2, opn o3, opn o4, .fro (.int T.length), .un] ∧ Tape acc ∧ acc.length = i) ⟨rfl, tape_nil, rfl⟩ ?_ ?_
    · rintro i d acc g hi ⟨rfl, hA, hl2⟩
      obtain ⟨rfl, hlt⟩ := rngL_at hi
      have hi2 : i < T.length := by omega
      have hx : atI T ((T.length : Int) - 1 - i) = T[(((T.length : Int) - 1 - i)).toNat]? := atI_nat (by omega) (by omega)
      have hj : ((T.length : Int) - 1 - i).toNat < T.length := by omega
      obtain ⟨z, hz⟩ := hT T[((T.length : Int) - 1 - i).toNat] (List.getElem_mem hj)
      have hx2 : atI T ((T.length : Int) - 1 - i) = some (.int z) := by rw [hx, List.getElem?_eq_getElem hj, hz]
      have hs : acc.length < SZ := by
        have : SZ = 16777216 := rfl
        omega
      simp_arith [hx2, hs]
      refine ⟨trivial, trivial, tape_app hA, by rw [List.length_append, hl2]; rfl⟩
    · rintro acc g ⟨rfl, hA, hl2⟩
      simp_arith []
      exact ⟨_, rfl, acc, rfl, hA⟩
end Mw
namespace Mw
open PySem L2
/-! ## told = due -/
mutual
def plB : D → Bool
  | .none => true
  | .bool _ => true
  | .int _ => true
  | .str x => shp (.str x)
  | .tuple ds => plA ds
  | _ => false
def plA : List D → Bool
  | [] => true
  | d :: ds => plB d && plA ds
end
mutual
def szD : D → Nat
  | .tuple ds => 1 + szA ds
  | _ => 1
def szA : List D → Nat
  | [] => 0
  | d :: ds => szD d + szA ds
end
theorem plA_app : ∀ {a b : List D}, plA (a ++ b) = (plA a && plA b)
  | [], b => by simp [plA]
  | d :: a, b => by rw [List.cons_append, plA, plA, plA_app, Bool.and_assoc]
theorem szA_app : ∀ {a b : List D}, szA (a ++ b) = szA a + szA b
  | [], b => by simp [szA]
  | d :: a, b => by rw [List.cons_append, szA, szA, szA_app, Nat.add_assoc]
theorem szD_pos (d : D) : 1 ≤ szD d := by cases d <;> simp [szD]
theorem len_sz : ∀ a : List D, a.length ≤ szA a
  | [] => Nat.le_refl _
  | d :: a => by
    have := len_sz a
    have := szD_pos d
    rw [List.length_cons, szA]; omega
def prD (d : D) : D := .tuple [d, d]
def d_just : SM Fl := (seqS (asgS 2 (lstE (argsCons (tupE (argsCons (vr 0) (argsCons (vr 1) argsNil))) argsNil)))
      (seqS (forS (rngE rngF1 (argsCons (cst (.int 1000000)) argsNil)) (.one 3) (seqS (ifS (tstE (op2 eqD (opN lenF (argsCons (vr 2) argsNil)) (cst (.int 0)))) bkS nxS)
      (seqS (asgT (.tup [4, 5]) (popE 2))
      (ifS (tstE (op1 (isiF [.tuple]) (vr 5))) (seqS (ifS (orT (notT (tstE (op1 (isiF [.tuple]) (vr 4)))) (tstE (op2 neD (opN lenF (argsCons (vr 4) argsNil)) (opN lenF (argsCons (vr 5) argsNil))))) (retS (cst (.bool false))) nxS)
      (forS (rngE rngF1 (argsCons (opN lenF (argsCons (vr 5) argsNil)) argsNil)) (.one 6) (exprS (apE 2 (tupE (argsCons (op2 ixD (vr 4) (vr 6)) (argsCons (op2 ixD (vr 5) (vr 6)) argsNil))))))) (ifS (orT (tstE (op1 isNF (vr 5))) (orT (tstE (op2 isBD (vr 5) (cst (.bool true)))) (tstE (op2 isBD (vr 5) (cst (.bool false)))))) (ifS (orT (tstE (op2 neD (op1 isNF (vr 4)) (op1 isNF (vr 5)))) (orT (tstE (op2 neD (op2 isBD (vr 4) (cst (.bool true))) (op2 isBD (vr 5) (cst (.bool true))))) (tstE (op2 neD (op2 isBD (vr 4) (cst (.bool false))) (op2 isBD (vr 5) (cst (.bool false))))))) (retS (cst (.bool false))) nxS) (ifS (tstE (op1 (isiF [.int]) (vr 5))) (ifS (orT (tstE (op1 (isiF [.bool]) (vr 4))) (orT (notT (tstE (op1 (isiF [.int]) (vr 4)))) (tstE (op2 neD (vr 4) (vr 5))))) (retS (cst (.bool false))) nxS) (ifS (orT (notT (tstE (op1 (isiF [.str]) (vr 4)))) (tstE (op2 neD (vr 4) (vr 5)))) (retS (cst (.bool false))) nxS)))))))
      (retS (op2 eqD (opN lenF (argsCons (vr 2) argsNil)) (cst (.int 0))))))
def F_just : Fd := fdN 2 5 d_just
theorem neD_bb (a b : Bool) : neD (.bool a) (.bool b) = some (.val (.bool (!(a == b)))) := rfl
theorem neD_ss {x : Str} (h : shp (.str x) = true) : neD (.str x) (.str x) = some (.val (.bool false)) := by
  unfold neD gd vB
  rw [h]
  have : PyData.eqv (.str x) (.str x) = true := by
    show (x == x) = true
    simp
  rw [this]; rfl
theorem just_in {a : D} {l ds : List D} {o3 o6 : Option D} {Q : Fl → List Sl → Prop} {ex : Nat → Str → D → List Sl → Prop} (hz : l.length + ds.length < SZ)
    (q : ∀ o6, Q .nx [.fro a, .fro a, .own ((l ++ ds).map prD), opn o3, .fro (.tuple ds), .fro (.tuple ds), opn o6]) :
    Post Q ex (forL (.one 6) (exprS (apE 2 (tupE (argsCons (op2 ixD (vr 4) (vr 6)) (argsCons (op2 ixD (vr 5) (vr 6)) argsNil))))) (rngL 0 (ds.length : Int).toNat) [.fro a, .fro a, .own (l.map prD), opn o3, .fro (.tuple ds), .fro (.tuple ds), opn o6]) := by
  have hlr : (rngL 0 (ds.length : Int).toNat).length = ds.length := by rw [rngL_len]; omega
  refine for_nx (fun i g => ∃ o6, g = [.fro a, .fro a, .own ((l ++ ds.take i).map prD), opn o3, .fro (.tuple ds), .fro (.tuple ds), opn o6]) ⟨o6, by rw [List.take_zero, List.append_nil]⟩ ?_ ?_
  · rintro i d g hi ⟨o6, rfl⟩
    obtain ⟨rfl, hlt⟩ := rngL_at hi
    have hi2 : i < ds.length := by omega
    have hx : atI ds (0 + (i : Int)) = some ds[i] := by
      rw [atI_nat (by omega) (by omega), show (0 + (i : Int)).toNat = i by omega, List.getElem?_eq_getElem hi2]
    have hx' : atI ds (i : Int) = some ds[i] := by rw [← hx, Int.zero_add]
    have hl : ((l ++ ds.take i).map prD).length < SZ := by
      rw [List.length_map, List.length_append, List.length_take]; omega
    have h2 : 2 ≤ SZ := by decide
    simp_arith [hx', hl, h2]
    refine ⟨some (.int i), ?_⟩
    have e : ds.take (i + 1) = ds.take i ++ [ds[i]] := by rw [List.take_append_getElem]
    rw [e, ← List.append_assoc, List.map_append (l₂ := [ds[i]])]
    rfl
  · rintro g ⟨o6, rfl⟩
    rw [hlr, List.take_length]
    exact q o6

theorem nx_drop {o : Option Out} : True := trivial
theorem just_ok {a : D} (ha : plB a = true) (hs : szD a ≤ 999999) : F_just [.fro a, .fro a] = .ok (.fro (.bool true)) none := by
  refine fd_post (R := fun r => r = .ok (.fro (.bool true)) none) rfl ?_
  have hr : rOk 1000000 = true := rOk_small (by decide) (by decide)
  have hlr : (rngL 0 (1000000 : Int).toNat).length = 1000000 := rngL_len _ _
  have h2 : 2 ≤ SZ := by decide
  have h1 : 1 ≤ SZ := by decide
  simp_arith [d_just, hr, h2, h1]
  refine for_br (fun i g => ∃ ts o3 o4 o5 o6, g = [.fro a, .fro a, .own (ts.map prD), opn o3, opn o4, opn o5, opn o6] ∧ plA ts = true ∧ szA ts + i ≤ 999999)
    (fun g => ∃ o3 o4 o5 o6, g = [.fro a, .fro a, .own [], opn o3, opn o4, opn o5, opn o6]) (fun _ _ => False) ⟨[a], none, none, none, none, rfl, by simp [plA, ha], by simp [szA]; exact hs⟩ ?_ ?_ ?_ fun _ _ h => h.elim
  · rintro i d g hi ⟨ts, o3, o4, o5, o6, rfl, hp, hz⟩
    obtain ⟨rfl, hlt⟩ := rngL_at hi
    rcases List.eq_nil_or_concat ts with rfl | ⟨l, x, rfl⟩
    · have h0 : decide (((0 : Nat) : Int) = 0) = true := rfl
      simp_arith [List.map_nil, h0]
      exact ⟨some _, o4, o5, o6, rfl⟩
    · rw [List.concat_eq_append] at hp hz ⊢
      rw [List.map_append, List.map_cons, List.map_nil]
      rw [plA_app, Bool.and_eq_true] at hp
      rw [szA_app] at hz
      have hn : decide (((l.map prD ++ [PyData.tuple [x, x]]).length : Int) = 0) = false := decide_eq_false (by simp; omega)
      have hll := len_sz l
      have hsz : SZ = 16777216 := rfl
      have hpl := hp.1
      cases x with
      | none =>
        simp_arith [prD, hn, neD_bb, beq_self_eq_true]
        exact ⟨l, some _, some _, some _, o6, rfl, hpl, by simp [szA, szD] at hz; omega⟩
      | bool b =>
        cases b with
        | true =>
          simp_arith [prD, hn, neD_bb, beq_self_eq_true]
          exact ⟨l, some _, some _, some _, o6, rfl, hpl, by simp [szA, szD] at hz; omega⟩
        | false =>
          simp_arith [prD, hn, neD_bb, beq_self_eq_true]
          exact ⟨l, some _, some _, some _, o6, rfl, hpl, by simp [szA, szD] at hz; omega⟩
      | int n =>
        simp_arith [prD, hn]
        exact ⟨l, some _, some _, some _, o6, rfl, hpl, by simp [szA, szD] at hz; omega⟩
      | str z =>
        have hz2 : shp (.str z) = true := by have := hp.2; simpa [plA, plB] using this
        simp_arith [prD, hn, neD_ss hz2]
        exact ⟨l, some _, some _, some _, o6, rfl, hpl, by simp [szA, szD] at hz; omega⟩
      | tuple ds =>
        have hds := len_sz ds
        have hz3 : szA l + (1 + szA ds) + i ≤ 999999 := by simpa [szA, szD] using hz
        have hpd : plA ds = true := by have := hp.2; simpa [plA, plB] using this
        have hr2 : rOk (ds.length : Int) = true := rOk_small (by omega) (by omega)
        simp_arith [prD, hn, hr2]
        refine just_in (o3 := some _) (by omega) fun o6 => ?_
        exact ⟨l ++ ds, some _, some _, some _, o6, rfl, by rw [plA_app, hpl, hpd]; rfl, by rw [szA_app]; omega⟩
      | list ds => simp [plA, plB] at hp
      | dict ds => simp [plA, plB] at hp
  · rintro g ⟨ts, o3, o4, o5, o6, rfl, hp, hz⟩
    rw [hlr] at hz
    omega
  · rintro g ⟨o3, o4, o5, o6, rfl⟩
    have h0 : decide (((0 : Nat) : Int) = 0) = true := rfl
    simp_arith [h0]
    exact ⟨_, rfl, rfl⟩
end Mw
namespace G82
open PySem L2 Mw
def topS (i : Nat) : Stmt := PySem.Challenge.pw_lastisdone_k82_queues_closed.main.body.getD i (.Pass ⟨0, 0, 0, 0⟩)
def sbL : List (List Bool) := [[true, false, false, false, false, false], [true, true, false, false, false, false], [true, true, true, false, false, false], [true, true, false, true, false, false], [true, true, false, false, true, false], [true, true, false, false, false, true]]
def sbT (k j : Nat) : Bool := (sbL.getD k []).getD j false
def d__law_ends : SM Fl := (seqS (asgS 2 (lstE argsNil))
      (seqS (asgS 3 (lstE argsNil))
      (seqS (forS (rngE rngF1 (argsCons (opN lenF (argsCons (vr 0) argsNil)) argsNil)) (.one 4) (seqS (asgS 5 (op2 ixD (vr 0) (vr 4)))
      (seqS (asgS 6 (lstE argsNil))
      (seqS (forS (rngE rngF1 (argsCons (opN lenF (argsCons (op2 ixD (vr 1) (vr 4)) argsNil)) argsNil)) (.one 7) (seqS (ifS (tstE (op2 gtD (vr 4) (cst (.int 0)))) (asgS 5 (opN maxF (argsCons (vr 5) (argsCons (op2 ixD (vr 2) (vr 7)) argsNil)))) nxS)
      (seqS (asgS 5 (op2 addD (vr 5) (op2 ixD (op2 ixD (vr 1) (vr 4)) (vr 7))))
      (exprS (apE 6 (vr 5))))))
      (seqS (asgS 2 (opN listF (argsCons (vr 6) argsNil)))
      (exprS (apE 3 (vr 5))))))))
      (retS (opN tupleF (argsCons (vr 3) argsNil))))))
def F__law_ends : Fd := fdN 2 6 d__law_ends
def d_tupled (F_self : Fd) : SM Fl := (seqS (ifS (tstE (op1 (isiF [.list, .tuple]) (vr 0))) (retS (opN tupleF (argsCons (lcE [1] (seqE (vr 0)) (.one 1) (ret true) (callE F_self (argsCons (vr 1) argsNil))) argsNil))) nxS)
      (retS (vr 0)))
def F_tupled : Nat → Fd
  | 0 => fun _ => .stuck
  | n + 1 => fdN 1 1 (d_tupled (F_tupled n))
def ini_BadNumber : SM EV := (callE (F_tupled 6) (argsCons (vr 1) argsNil))
def d_is_int : SM Fl := (retS (andV (op1 (isiF [.int]) (vr 0)) (notV (op1 (isiF [.bool]) (vr 0)))))
def F_is_int : Fd := fdN 1 0 d_is_int
def d_queue_change : SM Fl := (seqS (ifS (orT (notT (tstE (callE F_is_int (argsCons (vr 1) argsNil)))) (notT (tstE (chE leD leD (cst (.int 1)) (vr 1) (opN lenF (argsCons (vr 0) argsNil)))))) (raiseS 2 "at" (iniD ini_BadNumber) (vr 1)) nxS)
      (retS (vr 1)))
def F_queue_change : Fd := fdN 2 0 d_queue_change
def d_queue_dues : SM Fl := (seqS (asgS 3 (lstE argsNil))
      (seqS (forS (seqE (vr 0)) (.one 4) (seqS (asgS 5 (op2 addD (vr 4) (vr 1)))
      (seqS (ifS (andT (tstE (op2 gtD (opN lenF (argsCons (vr 3) argsNil)) (cst (.int 0)))) (tstE (op2 gtD (op2 addD (op2 ixD (vr 3) (op1 negD (cst (.int 1)))) (vr 2)) (vr 5)))) (asgS 5 (op2 addD (op2 ixD (vr 3) (op1 negD (cst (.int 1)))) (vr 2))) nxS)
      (exprS (apE 3 (vr 5))))))
      (retS (vr 3))))
def F_queue_dues : Fd := fdN 3 3 d_queue_dues
def d_queue_lengths : SM Fl := (seqS (ifS (orT (notT (tstE (op1 (isiF [.list, .tuple]) (vr 0)))) (tstE (op2 eqD (opN lenF (argsCons (vr 0) argsNil)) (cst (.int 0))))) (raiseS 2 "at" (iniD ini_BadNumber) (op1 negD (cst (.int 1)))) nxS)
      (seqS (forS (rngE rngF1 (argsCons (opN lenF (argsCons (vr 0) argsNil)) argsNil)) (.one 1) (ifS (orT (notT (tstE (callE F_is_int (argsCons (op2 ixD (vr 0) (vr 1)) argsNil)))) (tstE (op2 ltD (op2 ixD (vr 0) (vr 1)) (cst (.int 1))))) (raiseS 2 "at" (iniD ini_BadNumber) (vr 1)) nxS))
      (retS (opN tupleF (argsCons (vr 0) argsNil)))))
def F_queue_lengths : Fd := fdN 1 1 d_queue_lengths
def ini_BadRow : SM EV := (callE (F_tupled 6) (argsCons (vr 1) argsNil))
def d_queue_times : SM Fl := (seqS (ifS (orT (notT (tstE (op1 (isiF [.list, .tuple]) (vr 0)))) (tstE (op2 eqD (opN lenF (argsCons (vr 0) argsNil)) (cst (.int 0))))) (raiseS 3 "at" (iniD ini_BadRow) (op1 negD (cst (.int 1)))) nxS)
      (seqS (forS (rngE rngF1 (argsCons (opN lenF (argsCons (vr 0) argsNil)) argsNil)) (.one 1) (ifS (orT (notT (tstE (callE F_is_int (argsCons (op2 ixD (vr 0) (vr 1)) argsNil)))) (andT (tstE (op2 gtD (vr 1) (cst (.int 0)))) (tstE (op2 ltD (op2 ixD (vr 0) (vr 1)) (op2 ixD (vr 0) (op2 subD (vr 1) (cst (.int 1)))))))) (raiseS 3 "at" (iniD ini_BadRow) (vr 1)) nxS))
      (retS (opN tupleF (argsCons (vr 0) argsNil)))))
def F_queue_times : Fd := fdN 1 1 d_queue_times
def d_closed_done : SM Fl := (seqS (asgS 3 (callE F_queue_times (argsCons (vr 0) argsNil)))
      (seqS (asgS 4 (callE F_queue_lengths (argsCons (vr 1) argsNil)))
      (seqS (exprS (callE F_queue_change (argsCons (vr 3) (argsCons (vr 2) argsNil))))
      (retS (op2 ixD (callE F_queue_dues (argsCons (vr 3) (argsCons (opN (seqF sumF) (argsCons (vr 4) argsNil)) (argsCons (opN (seqF maxLF) (argsCons (vr 4) argsNil)) argsNil)))) (op2 subD (vr 2) (cst (.int 1))))))))
def F_closed_done : Fd := fdN 3 2 d_closed_done
def d_least_to_pass : SM Fl := (seqS (asgS 2 (callE F_queue_lengths (argsCons (vr 0) argsNil)))
      (seqS (ifS (notT (tstE (callE F_is_int (argsCons (vr 1) argsNil)))) (raiseS 2 "at" (iniD ini_BadNumber) (tupE (argsCons (vr 1) (argsCons (cst (.int 0)) argsNil)))) nxS)
      (seqS (asgS 3 (op2 subD (vr 1) (opN (seqF sumF) (argsCons (vr 2) argsNil))))
      (seqS (ifS (tstE (op2 ltD (vr 3) (cst (.int 0)))) (retS (cst (.int 1))) nxS)
      (retS (op2 addD (op2 divD (vr 3) (opN (seqF maxLF) (argsCons (vr 2) argsNil))) (cst (.int 2))))))))
def F_least_to_pass : Fd := fdN 2 2 d_least_to_pass
def d_queue_join : SM Fl := (seqS (asgS 2 (callE F_queue_lengths (argsCons (vr 0) argsNil)))
      (seqS (ifS (orT (notT (tstE (op1 (isiF [.list, .tuple]) (vr 1)))) (tstE (op2 eqD (opN lenF (argsCons (vr 1) argsNil)) (cst (.int 0))))) (raiseS 2 "at" (iniD ini_BadNumber) (tupE (argsCons (op1 negD (cst (.int 1))) (argsCons (op1 negD (cst (.int 1))) argsNil)))) nxS)
      (seqS (forS (rngE rngF1 (argsCons (opN lenF (argsCons (vr 1) argsNil)) argsNil)) (.one 3) (ifS (orT (notT (tstE (callE F_is_int (argsCons (op2 ixD (vr 1) (vr 3)) argsNil)))) (tstE (op2 ltD (op2 ixD (vr 1) (vr 3)) (cst (.int 1))))) (raiseS 2 "at" (iniD ini_BadNumber) (tupE (argsCons (vr 3) (argsCons (op1 negD (cst (.int 1))) argsNil)))) nxS))
      (retS (tupE (argsCons (op2 addD (opN (seqF sumF) (argsCons (vr 2) argsNil)) (opN (seqF sumF) (argsCons (vr 1) argsNil))) (argsCons (opN maxF (argsCons (opN (seqF maxLF) (argsCons (vr 2) argsNil)) (argsCons (opN (seqF maxLF) (argsCons (vr 1) argsNil)) argsNil))) argsNil)))))))
def F_queue_join : Fd := fdN 2 2 d_queue_join
def d_queue_lag : SM Fl := (seqS (asgS 2 (callE F_queue_lengths (argsCons (vr 0) argsNil)))
      (seqS (ifS (orT (notT (tstE (callE F_is_int (argsCons (vr 1) argsNil)))) (tstE (op2 ltD (vr 1) (cst (.int 1))))) (raiseS 2 "at" (iniD ini_BadNumber) (tupE (argsCons (vr 1) (argsCons (cst (.int 0)) argsNil)))) nxS)
      (seqS (ifS (tstE (op2 geD (vr 1) (opN (seqF maxLF) (argsCons (vr 2) argsNil)))) (retS (opN (seqF sumF) (argsCons (vr 2) argsNil))) nxS)
      (retS (cst (.str "endless"))))))
def F_queue_lag : Fd := fdN 2 1 d_queue_lag
def d_queue_sums : SM Fl := (seqS (asgS 1 (callE F_queue_lengths (argsCons (vr 0) argsNil)))
      (retS (tupE (argsCons (opN (seqF sumF) (argsCons (vr 1) argsNil)) (argsCons (opN (seqF maxLF) (argsCons (vr 1) argsNil)) argsNil)))))
def F_queue_sums : Fd := fdN 1 1 d_queue_sums
def d_stream_done : SM Fl := (seqS (asgS 3 (callE F_queue_lengths (argsCons (vr 0) argsNil)))
      (seqS (ifS (orT (notT (tstE (callE F_is_int (argsCons (vr 1) argsNil)))) (tstE (op2 ltD (vr 1) (cst (.int 0))))) (raiseS 2 "at" (iniD ini_BadNumber) (tupE (argsCons (vr 1) (argsCons (cst (.int 0)) argsNil)))) nxS)
      (seqS (ifS (orT (notT (tstE (callE F_is_int (argsCons (vr 2) argsNil)))) (tstE (op2 ltD (vr 2) (cst (.int 0))))) (raiseS 2 "at" (iniD ini_BadNumber) (tupE (argsCons (vr 2) (argsCons (cst (.int 0)) argsNil)))) nxS)
      (retS (op2 addD (opN (seqF sumF) (argsCons (vr 3) argsNil)) (op2 mulA (vr 2) (opN maxF (argsCons (vr 1) (argsCons (opN (seqF maxLF) (argsCons (vr 3) argsNil)) argsNil)))))))))
def F_stream_done : Fd := fdN 3 1 d_stream_done
def d__law_heard : SM Fl := (seqS (asgS 4 (tupE (argsCons (cst (.str "nothing")) argsNil)))
      (seqS (tryS sbT 6 (ifS (tstE (op2 eqD (vr 0) (cst (.int 0)))) (asgS 4 (tupE (argsCons (cst (.str "told")) (argsCons (callE F_closed_done (argsCons (vr 1) (argsCons (vr 2) (argsCons (vr 3) argsNil)))) argsNil)))) (ifS (tstE (op2 eqD (vr 0) (cst (.int 1)))) (asgS 4 (tupE (argsCons (cst (.str "told")) (argsCons (callE F_stream_done (argsCons (vr 1) (argsCons (vr 2) (argsCons (vr 3) argsNil)))) argsNil)))) (ifS (tstE (op2 eqD (vr 0) (cst (.int 2)))) (asgS 4 (tupE (argsCons (cst (.str "told")) (argsCons (callE F_least_to_pass (argsCons (vr 1) (argsCons (vr 2) argsNil))) argsNil)))) (ifS (tstE (op2 eqD (vr 0) (cst (.int 3)))) (asgS 4 (tupE (argsCons (cst (.str "told")) (argsCons (callE F_queue_lag (argsCons (vr 1) (argsCons (vr 2) argsNil))) argsNil)))) (ifS (tstE (op2 eqD (vr 0) (cst (.int 4)))) (asgS 4 (tupE (argsCons (cst (.str "told")) (argsCons (callE F_queue_join (argsCons (vr 1) (argsCons (vr 2) argsNil))) argsNil)))) (asgS 4 (tupE (argsCons (cst (.str "told")) (argsCons (callE F_queue_sums (argsCons (vr 1) argsNil)) argsNil))))))))) [(3, some 5, (asgS 4 (tupE (argsCons (cst (.str "row")) (argsCons (isxE sbT 6 5 [1]) (argsCons (isxE sbT 6 5 [2, 4]) (argsCons (fldE 6 5 "at") argsNil))))))), (2, some 5, (asgS 4 (tupE (argsCons (cst (.str "number")) (argsCons (isxE sbT 6 5 [1]) (argsCons (isxE sbT 6 5 [3, 4]) (argsCons (fldE 6 5 "at") argsNil))))))), (1, none, (asgS 4 (tupE (argsCons (cst (.str "other")) argsNil))))])
      (retS (vr 4))))
def F__law_heard : Fd := fdN 4 2 d__law_heard
def d__law_just : SM Fl := (seqS (asgS 2 (lstE (argsCons (tupE (argsCons (vr 0) (argsCons (vr 1) argsNil))) argsNil)))
      (seqS (forS (rngE rngF1 (argsCons (cst (.int 1000000)) argsNil)) (.one 3) (seqS (ifS (tstE (op2 eqD (opN lenF (argsCons (vr 2) argsNil)) (cst (.int 0)))) bkS nxS)
      (seqS (asgT (.tup [4, 5]) (popE 2))
      (ifS (tstE (op1 (isiF [.tuple]) (vr 5))) (seqS (ifS (orT (notT (tstE (op1 (isiF [.tuple]) (vr 4)))) (tstE (op2 neD (opN lenF (argsCons (vr 4) argsNil)) (opN lenF (argsCons (vr 5) argsNil))))) (retS (cst (.bool false))) nxS)
      (forS (rngE rngF1 (argsCons (opN lenF (argsCons (vr 5) argsNil)) argsNil)) (.one 6) (exprS (apE 2 (tupE (argsCons (op2 ixD (vr 4) (vr 6)) (argsCons (op2 ixD (vr 5) (vr 6)) argsNil))))))) (ifS (orT (tstE (op1 isNF (vr 5))) (orT (tstE (op2 isBD (vr 5) (cst (.bool true)))) (tstE (op2 isBD (vr 5) (cst (.bool false)))))) (ifS (orT (tstE (op2 neD (op1 isNF (vr 4)) (op1 isNF (vr 5)))) (orT (tstE (op2 neD (op2 isBD (vr 4) (cst (.bool true))) (op2 isBD (vr 5) (cst (.bool true))))) (tstE (op2 neD (op2 isBD (vr 4) (cst (.bool false))) (op2 isBD (vr 5) (cst (.bool false))))))) (retS (cst (.bool false))) nxS) (ifS (tstE (op1 (isiF [.int]) (vr 5))) (ifS (orT (tstE (op1 (isiF [.bool]) (vr 4))) (orT (notT (tstE (op1 (isiF [.int]) (vr 4)))) (tstE (op2 neD (vr 4) (vr 5))))) (retS (cst (.bool false))) nxS) (ifS (orT (notT (tstE (op1 (isiF [.str]) (vr 4)))) (tstE (op2 neD (vr 4) (vr 5)))) (retS (cst (.bool false))) nxS)))))))
      (retS (op2 eqD (opN lenF (argsCons (vr 2) argsNil)) (cst (.int 0))))))
def F__law_just : Fd := fdN 2 5 d__law_just
def ini_TooMany : SM EV := (vr 1)
def d_queue_cells : SM Fl := (ifS (tstE (op2 gtD (op2 mulA (vr 0) (vr 1)) (cst (.int 40000)))) (raiseS 5 "limit" (iniD ini_TooMany) (cst (.int 40000))) nxS)
def F_queue_cells : Fd := fdN 2 0 d_queue_cells
def d_queue_leavings : SM Fl := (seqS (asgS 2 (lstE argsNil))
      (seqS (asgS 3 (cst .none))
      (seqS (forS (rngE rngF1 (argsCons (opN lenF (argsCons (vr 0) argsNil)) argsNil)) (.one 4) (seqS (asgS 5 (op2 ixD (vr 0) (vr 4)))
      (seqS (asgS 6 (lstE argsNil))
      (seqS (forS (rngE rngF1 (argsCons (opN lenF (argsCons (op2 ixD (vr 1) (vr 4)) argsNil)) argsNil)) (.one 7) (seqS (ifS (andT (tstE (op1 noNF (vr 3))) (tstE (op2 gtD (op2 ixD (vr 3) (vr 7)) (vr 5)))) (asgS 5 (op2 ixD (vr 3) (vr 7))) nxS)
      (seqS (asgS 5 (op2 addD (vr 5) (op2 ixD (op2 ixD (vr 1) (vr 4)) (vr 7))))
      (exprS (apE 6 (vr 5))))))
      (seqS (exprS (apE 2 (opN tupleF (argsCons (vr 6) argsNil))))
      (asgS 3 (vr 6)))))))
      (retS (opN tupleF (argsCons (vr 2) argsNil))))))
def F_queue_leavings : Fd := fdN 2 6 d_queue_leavings
def d_queue_rows : SM Fl := (seqS (asgS 1 (lstE argsNil))
      (seqS (forS (rngE rngF1 (argsCons (opN lenF (argsCons (vr 0) argsNil)) argsNil)) (.one 2) (seqS (asgS 3 (op2 ixD (vr 0) (vr 2)))
      (seqS (ifS (orT (notT (tstE (op1 (isiF [.list, .tuple]) (vr 3)))) (tstE (op2 eqD (opN lenF (argsCons (vr 3) argsNil)) (cst (.int 0))))) (raiseS 3 "at" (iniD ini_BadRow) (tupE (argsCons (vr 2) (argsCons (op1 negD (cst (.int 1))) argsNil)))) nxS)
      (seqS (ifS (orT (andT (tstE (op2 gtD (vr 2) (cst (.int 0)))) (tstE (op2 neD (opN lenF (argsCons (vr 3) argsNil)) (opN lenF (argsCons (op2 ixD (vr 1) (cst (.int 0))) argsNil))))) (notT (tstE (opN allF (argsCons (lcE [4] (seqE (vr 3)) (.one 4) (ret true) (andV (callE F_is_int (argsCons (vr 4) argsNil)) (op2 geD (vr 4) (cst (.int 1))))) argsNil))))) (raiseS 3 "at" (iniD ini_BadRow) (tupE (argsCons (vr 2) (argsCons (op1 negD (cst (.int 1))) argsNil)))) nxS)
      (exprS (apE 1 (opN tupleF (argsCons (vr 3) argsNil))))))))
      (retS (opN tupleF (argsCons (vr 1) argsNil)))))
def F_queue_rows : Fd := fdN 1 4 d_queue_rows
def d_queue_table : SM Fl := (seqS (ifS (orT (notT (tstE (op1 (isiF [.list, .tuple]) (vr 0)))) (tstE (op2 neD (opN lenF (argsCons (vr 0) argsNil)) (vr 1)))) (raiseS 3 "at" (iniD ini_BadRow) (tupE (argsCons (op1 negD (cst (.int 1))) (argsCons (op1 negD (cst (.int 1))) argsNil)))) nxS)
      (retS (callE F_queue_rows (argsCons (vr 0) argsNil))))
def F_queue_table : Fd := fdN 2 0 d_queue_table
def d_done_at : SM Fl := (seqS (asgS 3 (callE F_queue_times (argsCons (vr 0) argsNil)))
      (seqS (asgS 4 (callE F_queue_table (argsCons (vr 1) (argsCons (opN lenF (argsCons (vr 3) argsNil)) argsNil))))
      (seqS (exprS (callE F_queue_change (argsCons (vr 3) (argsCons (vr 2) argsNil))))
      (seqS (exprS (callE F_queue_cells (argsCons (opN lenF (argsCons (vr 4) argsNil)) (argsCons (opN lenF (argsCons (op2 ixD (vr 4) (cst (.int 0))) argsNil)) argsNil))))
      (retS (op2 ixD (op2 ixD (callE F_queue_leavings (argsCons (vr 3) (argsCons (vr 4) argsNil))) (op2 subD (vr 2) (cst (.int 1)))) (op1 negD (cst (.int 1)))))))))
def F_done_at : Fd := fdN 3 2 d_done_at
def d__law_closed_right : SM Fl := (seqS (asgS 5 (callE F__law_ends (argsCons (vr 0) (argsCons (op2 mulA (tupE (argsCons (vr 1) argsNil)) (opN lenF (argsCons (vr 0) argsNil))) argsNil))))
      (seqS (asgS 6 (opN tupleF (argsCons (lcE [10] (seqE (vr 0)) (.one 10) (ret true) (op2 mulA (vr 3) (vr 10))) argsNil)))
      (seqS (asgS 7 (opN tupleF (argsCons (lcE [11] (seqE (vr 1)) (.one 11) (ret true) (op2 mulA (vr 3) (vr 11))) argsNil)))
      (seqS (forS (rngE rngF2 (argsCons (cst (.int 1)) (argsCons (op2 addD (opN lenF (argsCons (vr 0) argsNil)) (cst (.int 1))) argsNil))) (.one 8) (seqS (asgS 9 (vr 2))
      (seqS (ifS (tstE (op2 gtD (vr 4) (cst (.int 0)))) (asgS 9 (opN listF (argsCons (vr 2) argsNil))) nxS)
      (seqS (ifS (notT (tstE (callE F__law_just (argsCons (callE F__law_heard (argsCons (cst (.int 0)) (argsCons (vr 0) (argsCons (vr 1) (argsCons (vr 8) argsNil))))) (argsCons (tupE (argsCons (cst (.str "told")) (argsCons (op2 ixD (vr 5) (op2 subD (vr 8) (cst (.int 1)))) argsNil))) argsNil))))) (retS (cst (.bool false))) nxS)
      (seqS (ifS (notT (tstE (callE F__law_just (argsCons (callE F__law_heard (argsCons (cst (.int 0)) (argsCons (vr 0) (argsCons (vr 9) (argsCons (vr 8) argsNil))))) (argsCons (tupE (argsCons (cst (.str "told")) (argsCons (op2 ixD (vr 5) (op2 subD (vr 8) (cst (.int 1)))) argsNil))) argsNil))))) (retS (cst (.bool false))) nxS)
      (ifS (notT (tstE (callE F__law_just (argsCons (callE F__law_heard (argsCons (cst (.int 0)) (argsCons (vr 6) (argsCons (vr 7) (argsCons (vr 8) argsNil))))) (argsCons (tupE (argsCons (cst (.str "told")) (argsCons (op2 mulA (vr 3) (op2 ixD (vr 5) (op2 subD (vr 8) (cst (.int 1))))) argsNil))) argsNil))))) (retS (cst (.bool false))) nxS))))))
      (seqS (asgS 8 (opN lenF (argsCons (vr 0) argsNil)))
      (retS (andV (callE F__law_just (argsCons (callE F_done_at (argsCons (vr 0) (argsCons (op2 mulA (tupE (argsCons (vr 2) argsNil)) (vr 8)) (argsCons (vr 8) argsNil)))) (argsCons (op2 ixD (vr 5) (op2 subD (vr 8) (cst (.int 1)))) argsNil))) (callE F__law_just (argsCons (callE F_done_at (argsCons (vr 6) (argsCons (op2 mulA (lstE (argsCons (vr 7) argsNil)) (vr 8)) (argsCons (vr 8) argsNil)))) (argsCons (op2 mulA (vr 3) (op2 ixD (vr 5) (op2 subD (vr 8) (cst (.int 1))))) argsNil))))))))))
def F__law_closed_right : Fd := fdN 5 7 d__law_closed_right
def d__law_joined_right : SM Fl := (seqS (asgS 3 (op2 addD (vr 1) (vr 2)))
      (seqS (asgS 4 (tupE (argsCons (opN (seqF sumF) (argsCons (vr 3) argsNil)) (argsCons (opN (seqF maxLF) (argsCons (vr 3) argsNil)) argsNil))))
      (seqS (forS (seqE (tupE (argsCons (tupE (argsCons (vr 1) (argsCons (vr 2) argsNil))) (argsCons (tupE (argsCons (vr 2) (argsCons (vr 1) argsNil))) (argsCons (tupE (argsCons (opN listF (argsCons (vr 1) argsNil)) (argsCons (opN listF (argsCons (vr 2) argsNil)) argsNil))) argsNil))))) (.one 5) (ifS (notT (tstE (callE F__law_just (argsCons (callE F__law_heard (argsCons (cst (.int 4)) (argsCons (op2 ixD (vr 5) (cst (.int 0))) (argsCons (op2 ixD (vr 5) (cst (.int 1))) (argsCons (cst (.int 0)) argsNil))))) (argsCons (tupE (argsCons (cst (.str "told")) (argsCons (vr 4) argsNil))) argsNil))))) (retS (cst (.bool false))) nxS))
      (seqS (ifS (orT (notT (tstE (callE F__law_just (argsCons (callE F__law_heard (argsCons (cst (.int 5)) (argsCons (vr 3) (argsCons (cst (.int 0)) (argsCons (cst (.int 0)) argsNil))))) (argsCons (tupE (argsCons (cst (.str "told")) (argsCons (vr 4) argsNil))) argsNil))))) (notT (tstE (callE F__law_just (argsCons (callE F__law_heard (argsCons (cst (.int 5)) (argsCons (vr 1) (argsCons (cst (.int 0)) (argsCons (cst (.int 0)) argsNil))))) (argsCons (tupE (argsCons (cst (.str "told")) (argsCons (tupE (argsCons (opN (seqF sumF) (argsCons (vr 1) argsNil)) (argsCons (opN (seqF maxLF) (argsCons (vr 1) argsNil)) argsNil))) argsNil))) argsNil)))))) (retS (cst (.bool false))) nxS)
      (seqS (asgS 6 (opN lenF (argsCons (vr 0) argsNil)))
      (seqS (asgS 7 (callE F__law_ends (argsCons (vr 0) (argsCons (op2 mulA (tupE (argsCons (vr 1) argsNil)) (vr 6)) argsNil))))
      (seqS (asgS 8 (callE F__law_ends (argsCons (vr 0) (argsCons (op2 mulA (tupE (argsCons (vr 3) argsNil)) (vr 6)) argsNil))))
      (retS (andV (callE F__law_just (argsCons (callE F_done_at (argsCons (vr 7) (argsCons (op2 mulA (tupE (argsCons (vr 2) argsNil)) (vr 6)) (argsCons (vr 6) argsNil)))) (argsCons (op2 ixD (vr 8) (op2 subD (vr 6) (cst (.int 1)))) argsNil))) (callE F__law_just (argsCons (callE F__law_heard (argsCons (cst (.int 0)) (argsCons (vr 0) (argsCons (vr 3) (argsCons (vr 6) argsNil))))) (argsCons (tupE (argsCons (cst (.str "told")) (argsCons (op2 ixD (vr 8) (op2 subD (vr 6) (cst (.int 1)))) argsNil))) argsNil))))))))))))
def F__law_joined_right : Fd := fdN 3 6 d__law_joined_right
def d__law_pass_right : SM Fl := (seqS (asgS 2 (callE F__law_ends (argsCons (op2 mulA (tupE (argsCons (cst (.int 0)) argsNil)) (cst (.int 12))) (argsCons (op2 mulA (tupE (argsCons (vr 0) argsNil)) (cst (.int 12))) argsNil))))
      (seqS (forS (seqE (tupE (argsCons (op2 subD (op2 ixD (vr 2) (cst (.int 0))) (cst (.int 1))) (argsCons (op2 ixD (vr 2) (cst (.int 0))) (argsCons (op2 subD (op2 ixD (vr 2) (cst (.int 3))) (cst (.int 1))) (argsCons (op2 ixD (vr 2) (cst (.int 3))) (argsCons (op2 ixD (vr 2) (cst (.int 10))) (argsCons (op1 negD (vr 1)) (argsCons (cst (.int 0)) argsNil))))))))) (.one 3) (seqS (asgS 4 (op2 addD (cst (.int 1)) (opN lenF (argsCons (lcE [7] (seqE (vr 2)) (.one 7) (tstE (op2 leD (vr 7) (vr 3))) (vr 7)) argsNil))))
      (ifS (notT (tstE (callE F__law_just (argsCons (callE F__law_heard (argsCons (cst (.int 2)) (argsCons (vr 0) (argsCons (vr 3) (argsCons (cst (.int 0)) argsNil))))) (argsCons (tupE (argsCons (cst (.str "told")) (argsCons (vr 4) argsNil))) argsNil))))) (retS (cst (.bool false))) nxS)))
      (seqS (forS (seqE (tupE (argsCons (vr 1) (argsCons (op2 addD (vr 1) (cst (.int 1))) (argsCons (op2 addD (opN (seqF sumF) (argsCons (vr 0) argsNil)) (op2 mulA (vr 1) (opN (seqF maxLF) (argsCons (vr 0) argsNil)))) (argsCons (op2 subD (op2 addD (opN (seqF sumF) (argsCons (vr 0) argsNil)) (op2 mulA (vr 1) (opN (seqF maxLF) (argsCons (vr 0) argsNil)))) (cst (.int 1))) argsNil)))))) (.one 3) (seqS (asgS 5 (callE F__law_heard (argsCons (cst (.int 2)) (argsCons (vr 0) (argsCons (vr 3) (argsCons (cst (.int 0)) argsNil))))))
      (seqS (asgS 6 (op2 ixD (vr 5) (op2 subD (opN lenF (argsCons (vr 5) argsNil)) (cst (.int 1)))))
      (seqS (ifS (orT (tstE (op2 neD (op2 ixD (vr 5) (cst (.int 0))) (cst (.str "told")))) (orT (notT (tstE (op1 (isiF [.int]) (vr 6)))) (orT (tstE (op1 (isiF [.bool]) (vr 6))) (tstE (op2 ltD (vr 6) (cst (.int 1))))))) (retS (cst (.bool false))) nxS)
      (ifS (orT (tstE (op2 leD (op2 addD (opN (seqF sumF) (argsCons (vr 0) argsNil)) (op2 mulA (op2 subD (vr 6) (cst (.int 1))) (opN (seqF maxLF) (argsCons (vr 0) argsNil)))) (vr 3))) (andT (tstE (op2 gtD (vr 6) (cst (.int 1)))) (tstE (op2 gtD (op2 addD (opN (seqF sumF) (argsCons (vr 0) argsNil)) (op2 mulA (op2 subD (vr 6) (cst (.int 2))) (opN (seqF maxLF) (argsCons (vr 0) argsNil)))) (vr 3))))) (retS (cst (.bool false))) nxS)))))
      (retS (cst (.bool true))))))
def F__law_pass_right : Fd := fdN 2 6 d__law_pass_right
def d__law_take : SM Fl := (seqS (ifS (tstE (op2 eqD (opN lenF (argsCons (vr 0) argsNil)) (cst (.int 0)))) (retS (cst (.int 0))) nxS)
      (retS (op2 modD (opN intF (argsCons (popE 0) argsNil)) (vr 1))))
def F__law_take : Fd := fdN 2 0 d__law_take
def d__law_refused : SM Fl := (seqS (asgS 3 (op2 ixD (tupE (argsCons (cst (.int 0)) (argsCons (cst .none) (argsCons (cst (.bool true)) (argsCons (op1 negD (cst (.int 1))) (argsCons (cst (.str "3")) (argsCons (tupE (argsCons (cst (.int 2)) argsNil)) argsNil))))))) (callB F__law_take (argsCons (vr 0) (argsCons (cst (.int 6)) argsNil)))))
      (seqS (asgT (.tup [4, 5]) (op2 ixD (tupE (argsCons (tupE (argsCons (cst .none) (argsCons (op1 negD (cst (.int 1))) argsNil))) (argsCons (tupE (argsCons (tupE argsNil) (argsCons (op1 negD (cst (.int 1))) argsNil))) (argsCons (tupE (argsCons (op2 addD (vr 2) (tupE (argsCons (vr 3) argsNil))) (argsCons (opN lenF (argsCons (vr 2) argsNil)) argsNil))) (argsCons (tupE (argsCons (op2 addD (tupE (argsCons (vr 3) argsNil)) (vr 2)) (argsCons (cst (.int 0)) argsNil))) (argsCons (tupE (argsCons (cst (.str "row")) (argsCons (op1 negD (cst (.int 1))) argsNil))) argsNil)))))) (callB F__law_take (argsCons (vr 0) (argsCons (cst (.int 5)) argsNil)))))
      (seqS (forS (rngE rngF2 (argsCons (cst (.int 1)) (argsCons (cst (.int 6)) argsNil))) (.one 6) (ifS (notT (tstE (callE F__law_just (argsCons (callE F__law_heard (argsCons (vr 6) (argsCons (vr 4) (argsCons (cst .none) (argsCons (cst .none) argsNil))))) (argsCons (tupE (argsCons (cst (.str "number")) (argsCons (cst (.bool true)) (argsCons (cst (.bool false)) (argsCons (vr 5) argsNil))))) argsNil))))) (retS (cst (.bool false))) nxS))
      (seqS (ifS (notT (tstE (callE F__law_just (argsCons (callE F__law_heard (argsCons (cst (.int 0)) (argsCons (vr 1) (argsCons (vr 4) (argsCons (cst .none) argsNil))))) (argsCons (tupE (argsCons (cst (.str "number")) (argsCons (cst (.bool true)) (argsCons (cst (.bool false)) (argsCons (vr 5) argsNil))))) argsNil))))) (retS (cst (.bool false))) nxS)
      (seqS (ifS (notT (tstE (callE F__law_just (argsCons (callE F__law_heard (argsCons (cst (.int 4)) (argsCons (vr 2) (argsCons (vr 4) (argsCons (cst (.int 0)) argsNil))))) (argsCons (tupE (argsCons (cst (.str "number")) (argsCons (cst (.bool true)) (argsCons (cst (.bool false)) (argsCons (tupE (argsCons (vr 5) (argsCons (op1 negD (cst (.int 1))) argsNil))) argsNil))))) argsNil))))) (retS (cst (.bool false))) nxS)
      (seqS (asgT (.tup [7, 8]) (op2 ixD (tupE (argsCons (tupE (argsCons (cst .none) (argsCons (op1 negD (cst (.int 1))) argsNil))) (argsCons (tupE (argsCons (tupE argsNil) (argsCons (op1 negD (cst (.int 1))) argsNil))) (argsCons (tupE (argsCons (tupE (argsCons (cst (.int 5)) (argsCons (cst (.int 4)) argsNil))) (argsCons (cst (.int 1)) argsNil))) (argsCons (tupE (argsCons (tupE (argsCons (cst (.int 5)) (argsCons (cst .none) argsNil))) (argsCons (cst (.int 1)) argsNil))) (argsCons (tupE (argsCons (tupE (argsCons (cst (.bool true)) (argsCons (cst (.int 5)) argsNil))) (argsCons (cst (.int 0)) argsNil))) argsNil)))))) (callB F__law_take (argsCons (vr 0) (argsCons (cst (.int 5)) argsNil)))))
      (seqS (ifS (notT (tstE (callE F__law_just (argsCons (callE F__law_heard (argsCons (cst (.int 0)) (argsCons (vr 7) (argsCons (vr 4) (argsCons (cst .none) argsNil))))) (argsCons (tupE (argsCons (cst (.str "row")) (argsCons (cst (.bool true)) (argsCons (cst (.bool false)) (argsCons (vr 8) argsNil))))) argsNil))))) (retS (cst (.bool false))) nxS)
      (seqS (forS (seqE (tupE (argsCons (vr 3) (argsCons (op2 addD (opN lenF (argsCons (vr 1) argsNil)) (cst (.int 1))) argsNil)))) (.one 9) (ifS (notT (tstE (callE F__law_just (argsCons (callE F__law_heard (argsCons (cst (.int 0)) (argsCons (vr 1) (argsCons (vr 2) (argsCons (vr 9) argsNil))))) (argsCons (tupE (argsCons (cst (.str "number")) (argsCons (cst (.bool true)) (argsCons (cst (.bool false)) (argsCons (vr 9) argsNil))))) argsNil))))) (retS (cst (.bool false))) nxS))
      (seqS (asgS 10 (op2 ixD (tupE (argsCons (op1 negD (cst (.int 1))) (argsCons (cst .none) (argsCons (cst (.bool true)) (argsCons (cst (.str "0")) (argsCons (tupE (argsCons (cst (.int 1)) argsNil)) argsNil)))))) (callB F__law_take (argsCons (vr 0) (argsCons (cst (.int 5)) argsNil)))))
      (seqS (ifS (notT (tstE (callE F__law_just (argsCons (callE F__law_heard (argsCons (cst (.int 1)) (argsCons (vr 2) (argsCons (vr 10) (argsCons (vr 10) argsNil))))) (argsCons (tupE (argsCons (cst (.str "number")) (argsCons (cst (.bool true)) (argsCons (cst (.bool false)) (argsCons (tupE (argsCons (vr 10) (argsCons (cst (.int 0)) argsNil))) argsNil))))) argsNil))))) (retS (cst (.bool false))) nxS)
      (seqS (ifS (notT (tstE (callE F__law_just (argsCons (callE F__law_heard (argsCons (cst (.int 1)) (argsCons (vr 2) (argsCons (cst (.int 0)) (argsCons (vr 10) argsNil))))) (argsCons (tupE (argsCons (cst (.str "number")) (argsCons (cst (.bool true)) (argsCons (cst (.bool false)) (argsCons (tupE (argsCons (vr 10) (argsCons (cst (.int 0)) argsNil))) argsNil))))) argsNil))))) (retS (cst (.bool false))) nxS)
      (seqS (ifS (notT (tstE (callE F__law_just (argsCons (callE F__law_heard (argsCons (cst (.int 3)) (argsCons (vr 2) (argsCons (vr 3) (argsCons (cst (.int 0)) argsNil))))) (argsCons (tupE (argsCons (cst (.str "number")) (argsCons (cst (.bool true)) (argsCons (cst (.bool false)) (argsCons (tupE (argsCons (vr 3) (argsCons (cst (.int 0)) argsNil))) argsNil))))) argsNil))))) (retS (cst (.bool false))) nxS)
      (seqS (asgS 11 (op2 ixD (tupE (argsCons (cst .none) (argsCons (cst (.str "4")) (argsCons (cst (.bool true)) (argsCons (tupE (argsCons (cst (.int 1)) (argsCons (cst (.int 2)) argsNil))) argsNil))))) (callB F__law_take (argsCons (vr 0) (argsCons (cst (.int 4)) argsNil)))))
      (retS (callE F__law_just (argsCons (callE F__law_heard (argsCons (cst (.int 2)) (argsCons (vr 2) (argsCons (vr 11) (argsCons (cst (.int 0)) argsNil))))) (argsCons (tupE (argsCons (cst (.str "number")) (argsCons (cst (.bool true)) (argsCons (cst (.bool false)) (argsCons (tupE (argsCons (vr 11) (argsCons (cst (.int 0)) argsNil))) argsNil))))) argsNil)))))))))))))))))
def F__law_refused : Fd := fdN 3 9 d__law_refused
def d__law_stream_right : SM Fl := (seqS (asgS 3 (opN tupleF (argsCons (lcE [5] (rngE rngF1 (argsCons (cst (.int 9)) argsNil)) (.one 5) (ret true) (op2 mulA (vr 1) (vr 5))) argsNil)))
      (seqS (asgS 4 (callE F__law_ends (argsCons (vr 3) (argsCons (op2 mulA (tupE (argsCons (vr 0) argsNil)) (cst (.int 9))) argsNil))))
      (seqS (forS (seqE (tupE (argsCons (cst (.int 0)) (argsCons (cst (.int 1)) (argsCons (cst (.int 2)) (argsCons (cst (.int 8)) argsNil)))))) (.one 5) (ifS (notT (tstE (callE F__law_just (argsCons (callE F__law_heard (argsCons (cst (.int 1)) (argsCons (vr 0) (argsCons (vr 1) (argsCons (vr 5) argsNil))))) (argsCons (tupE (argsCons (cst (.str "told")) (argsCons (op2 ixD (vr 4) (vr 5)) argsNil))) argsNil))))) (retS (cst (.bool false))) nxS))
      (seqS (asgS 6 (op2 addD (opN (seqF sumF) (argsCons (vr 0) argsNil)) (op2 mulA (vr 2) (opN maxF (argsCons (vr 1) (argsCons (opN (seqF maxLF) (argsCons (vr 0) argsNil)) argsNil))))))
      (seqS (ifS (notT (tstE (callE F__law_just (argsCons (callE F__law_heard (argsCons (cst (.int 1)) (argsCons (vr 0) (argsCons (vr 1) (argsCons (vr 2) argsNil))))) (argsCons (tupE (argsCons (cst (.str "told")) (argsCons (vr 6) argsNil))) argsNil))))) (retS (cst (.bool false))) nxS)
      (seqS (asgS 6 (op2 addD (opN (seqF sumF) (argsCons (vr 0) argsNil)) (op2 mulA (cst (.int 7)) (opN maxF (argsCons (vr 2) (argsCons (opN (seqF maxLF) (argsCons (vr 0) argsNil)) argsNil))))))
      (seqS (ifS (notT (tstE (callE F__law_just (argsCons (callE F__law_heard (argsCons (cst (.int 1)) (argsCons (vr 0) (argsCons (vr 2) (argsCons (cst (.int 7)) argsNil))))) (argsCons (tupE (argsCons (cst (.str "told")) (argsCons (vr 6) argsNil))) argsNil))))) (retS (cst (.bool false))) nxS)
      (seqS (ifS (tstE (op2 eqD (vr 1) (cst (.int 0)))) (retS (cst (.bool true))) nxS)
      (seqS (ifS (tstE (op2 ltD (vr 1) (opN (seqF maxLF) (argsCons (vr 0) argsNil)))) (retS (andV (op2 gtD (op2 subD (op2 ixD (vr 4) (cst (.int 8))) (op2 ixD (vr 3) (cst (.int 8)))) (op2 ixD (vr 4) (cst (.int 0)))) (callE F__law_just (argsCons (callE F__law_heard (argsCons (cst (.int 3)) (argsCons (vr 0) (argsCons (vr 1) (argsCons (cst (.int 0)) argsNil))))) (argsCons (tupE (argsCons (cst (.str "told")) (argsCons (cst (.str "endless")) argsNil))) argsNil))))) nxS)
      (retS (andV (op2 eqD (op2 subD (op2 ixD (vr 4) (cst (.int 8))) (op2 ixD (vr 3) (cst (.int 8)))) (opN (seqF sumF) (argsCons (vr 0) argsNil))) (callE F__law_just (argsCons (callE F__law_heard (argsCons (cst (.int 3)) (argsCons (vr 0) (argsCons (vr 1) (argsCons (cst (.int 0)) argsNil))))) (argsCons (tupE (argsCons (cst (.str "told")) (argsCons (opN (seqF sumF) (argsCons (vr 0) argsNil)) argsNil))) argsNil))))))))))))))
def F__law_stream_right : Fd := fdN 3 4 d__law_stream_right
def d__law_tape : SM Fl := (seqS (asgS 1 (lstE argsNil))
      (seqS (forS (seqE (scrE 0 40)) (.one 2) (seqS (asgS 3 (op2 modD (opN absF (argsCons (opN intF (argsCons (vr 2) argsNil)) argsNil)) (op2 powD (cst (.int 60)) (cst (.int 15)))))
      (seqS (ifS (tstE (op2 ltD (opN intF (argsCons (vr 2) argsNil)) (cst (.int 0)))) (asgS 3 (op2 addD (op2 mulA (vr 3) (cst (.int 7))) (cst (.int 11)))) nxS)
      (forS (rngE rngF1 (argsCons (cst (.int 18)) argsNil)) (.one 4) (seqS (exprS (apE 1 (op2 modD (opN intF (argsCons (vr 3) argsNil)) (cst (.int 60)))))
      (seqS (asgS 3 (op2 divD (vr 3) (cst (.int 60))))
      (ifS (tstE (op2 eqD (vr 3) (cst (.int 0)))) bkS nxS)))))))
      (seqS (asgS 5 (opN lenF (argsCons (vr 1) argsNil)))
      (retS (lcE [6] (rngE rngF1 (argsCons (vr 5) argsNil)) (.one 6) (ret true) (op2 ixD (vr 1) (op2 subD (op2 subD (vr 5) (cst (.int 1))) (vr 6))))))))
def F__law_tape : Fd := fdN 1 6 d__law_tape
def d__law_tied : SM Fl := (seqS (asgS 1 (lstE (argsCons (op2 ixD (tupE (argsCons (cst (.int 0)) (argsCons (cst (.int 3)) (argsCons (op1 negD (cst (.int 7))) (argsCons (op2 powD (cst (.int 10)) (cst (.int 25))) argsNil))))) (callB F__law_take (argsCons (vr 0) (argsCons (cst (.int 4)) argsNil)))) argsNil)))
      (seqS (forS (rngE rngF1 (argsCons (op2 ixD (tupE (argsCons (cst (.int 3)) (argsCons (cst (.int 0)) (argsCons (cst (.int 1)) (argsCons (cst (.int 5)) (argsCons (cst (.int 9)) argsNil)))))) (callB F__law_take (argsCons (vr 0) (argsCons (cst (.int 5)) argsNil)))) argsNil)) (.one 2) (exprS (apE 1 (op2 addD (op2 ixD (vr 1) (vr 2)) (op2 ixD (tupE (argsCons (cst (.int 0)) (argsCons (cst (.int 1)) (argsCons (cst (.int 0)) (argsCons (cst (.int 3)) (argsCons (cst (.int 7)) argsNil)))))) (callB F__law_take (argsCons (vr 0) (argsCons (cst (.int 5)) argsNil))))))))
      (retS (opN tupleF (argsCons (vr 1) argsNil)))))
def F__law_tied : Fd := fdN 1 2 d__law_tied
def d__law_z_row : SM Fl := (seqS (asgS 2 (lstE argsNil))
      (seqS (forS (rngE rngF1 (argsCons (op2 ixD (tupE (argsCons (cst (.int 2)) (argsCons (cst (.int 1)) (argsCons (cst (.int 3)) (argsCons (cst (.int 4)) (argsCons (cst (.int 6)) argsNil)))))) (callB F__law_take (argsCons (vr 0) (argsCons (cst (.int 5)) argsNil)))) argsNil)) (.one 3) (exprS (apE 2 (op2 ixD (tupE (argsCons (vr 1) (argsCons (cst (.int 1)) (argsCons (cst (.int 3)) (argsCons (cst (.int 2)) (argsCons (cst (.int 5)) (argsCons (cst (.int 9)) argsNil))))))) (callB F__law_take (argsCons (vr 0) (argsCons (cst (.int 6)) argsNil)))))))
      (retS (opN tupleF (argsCons (vr 2) argsNil)))))
def F__law_z_row : Fd := fdN 2 2 d__law_z_row
def d_law : SM Fl := (seqS (asgS 1 (callE F__law_tape (argsCons (vrS 0) argsNil)))
      (seqS (asgS 2 (callB F__law_take (argsCons (vr 1) (argsCons (cst (.int 2)) argsNil))))
      (seqS (asgS 3 (callB F__law_z_row (argsCons (vr 1) (argsCons (cst (.int 2)) argsNil))))
      (seqS (asgS 4 (callB F__law_z_row (argsCons (vr 1) (argsCons (cst (.int 4)) argsNil))))
      (seqS (asgS 5 (callB F__law_tied (argsCons (vr 1) argsNil)))
      (seqS (asgS 6 (callB F__law_take (argsCons (vr 1) (argsCons (opN lenF (argsCons (vr 3) argsNil)) argsNil))))
      (seqS (asgS 7 (op2 ixD (tupE (argsCons (op2 powD (cst (.int 10)) (cst (.int 4))) (argsCons (cst (.int 7)) (argsCons (cst (.int 1)) (argsCons (cst (.int 3)) argsNil))))) (callB F__law_take (argsCons (vr 1) (argsCons (cst (.int 4)) argsNil)))))
      (seqS (ifS (notT (tstE (callE F__law_closed_right (argsCons (vr 5) (argsCons (vr 3) (argsCons (op2 addD (slE (vr 3) (partE (vr 6)) (ret none)) (slE (vr 3) (ret none) (partE (vr 6)))) (argsCons (vr 7) (argsCons (vr 2) argsNil)))))))) (retS (cst (.bool false))) nxS)
      (seqS (ifS (notT (tstE (callE F__law_closed_right (argsCons (vr 5) (argsCons (vr 3) (argsCons (op1 revA (vr 3)) (argsCons (cst (.int 1)) (argsCons (vr 2) argsNil)))))))) (retS (cst (.bool false))) nxS)
      (seqS (asgS 8 (op2 ixD (tupE (argsCons (cst (.int 1)) (argsCons (cst (.int 0)) (argsCons (cst (.int 2)) (argsCons (cst (.int 5)) (argsCons (cst (.int 9)) (argsCons (cst (.int 30)) argsNil))))))) (callB F__law_take (argsCons (vr 1) (argsCons (cst (.int 6)) argsNil)))))
      (seqS (asgS 9 (op2 addD (op2 powD (cst (.int 10)) (cst (.int 25))) (callB F__law_take (argsCons (vr 1) (argsCons (cst (.int 60)) argsNil)))))
      (seqS (ifS (orT (notT (tstE (callE F__law_stream_right (argsCons (vr 3) (argsCons (vr 8) (argsCons (vr 9) argsNil)))))) (notT (tstE (callE F__law_pass_right (argsCons (vr 3) (argsCons (vr 9) argsNil)))))) (retS (cst (.bool false))) nxS)
      (retS (andV (callE F__law_joined_right (argsCons (vr 5) (argsCons (vr 3) (argsCons (vr 4) argsNil)))) (callB F__law_refused (argsCons (vr 1) (argsCons (vr 5) (argsCons (vr 3) argsNil))))))))))))))))))
def F_law : Fd := fdN 1 9 d_law
structure Bi (K : PySem.W.Frag) (mg : Str → Option Value) (cA : Nat → Addr) : Prop where
  z_abs : mg "abs" = none
  z_all : mg "all" = none
  z_bool : mg "bool" = none
  z_int : mg "int" = none
  z_isinstance : mg "isinstance" = none
  z_len : mg "len" = none
  z_list : mg "list" = none
  z_max : mg "max" = none
  z_range : mg "range" = none
  z_str : mg "str" = none
  z_sum : mg "sum" = none
  z_tuple : mg "tuple" = none
  k_MOST_CELLS : ∃ t, mg "MOST_CELLS" = some (.int 40000 t)
  m_DoneError : mg "DoneError" = some (.ref (cA 1))
  m_BadNumber : mg "BadNumber" = some (.ref (cA 2))
  m_BadRow : mg "BadRow" = some (.ref (cA 3))
  m_BadCase : mg "BadCase" = some (.ref (cA 4))
  m_TooMany : mg "TooMany" = some (.ref (cA 5))
  errs : Errs K cA sbT 6
theorem Bi.c_MOST_CELLS {K : PySem.W.Frag} {mg : Str → Option Value} {cA : Nat → Addr} (B : Bi K mg cA) {X : Cx} {P : Pa} {W : WX} {pos : Pos} (hg : Gl X "MOST_CELLS") (hm : X.mg = mg := by rfl) : PE X (.Name "MOST_CELLS" pos) (TEo P W (cst (.int 40000))) := by
  obtain ⟨t, e⟩ := B.k_MOST_CELLS
  exact me_glob (pe_glob (v := .int 40000) hg (by rw [hm]; exact e) ⟨t, rfl⟩) fun σ H Q h => h _ fun _ => .int _
theorem Bi.exmL {K : PySem.W.Frag} {mg : Str → Option Value} {cA : Nat → Addr} (B : Bi K mg cA) (hs : List Hdl) (h : hs.all (fun h => h.1 < 6) = true) : ∀ h ∈ hs, ∀ k, 0 < k → k < 6 → PySem.W.exmOne K (.ref (cA k)) (cV cA h.1) = some (sbT k h.1) :=
  fun x hx k h1 h2 => B.errs.exm k h1 h2 x.1 (of_decide_eq_true (List.all_eq_true.mp h x hx))
section
variable {P : Program} {w : World} {K : PySem.W.Frag} {mg : Str → Option Value} {base : Heap} {cA : Nat → Addr}
theorem sc__law_ends : FnScope ["times", "rows", "ahead", "ends", "at", "now", "mine", "g"] ["times", "rows"] (defScope (topS 33)) := ⟨rfl, rfl, rfl, by decide +kernel, rfl, by decide +kernel, by decide +kernel⟩
theorem ok__law_ends (B : Bi K mg cA)  {f : Addr} {fd : FuncData} (Fu : L2.Fun K "_law_ends" "_law_ends" (topS 33) f fd) : FnOk P w K mg base (L2.CX P w) 1 f fd ["times", "rows"] (SpD K cA 2 F__law_ends) :=
  have S := sc__law_ends
  fn_okN (cA := cA) (N := ["times", "rows", "ahead", "ends", "at", "now", "mine", "g"]) 2 6 Fu sc__law_ends rfl rfl (fun cdv A outer s H E X hX hr tk hp => by
    subst hX
    exact (ms_cons (ms_set (i := 2) S.nd rfl (by first | exact Or.inl rfl | exact Or.inr rfl) (me_lst ma_nil))
      (ms_cons (ms_set (i := 3) S.nd rfl (by first | exact Or.inl rfl | exact Or.inr rfl) (me_lst ma_nil))
      (ms_cons (ms_for hp rfl (mi_rng1 (by rfl) B.z_range (ma_cons (me_callB c_len s_len (by rfl) B.z_len (by decide +kernel) (ma_cons (me_var (pv 0)) ma_nil)) ma_nil)) (mg_name (pg_name (i := 4) S.nd rfl (by first | exact Or.inl rfl | exact Or.inr rfl))) (ms_cons (ms_set (i := 5) S.nd rfl (by first | exact Or.inl rfl | exact Or.inr rfl) (me_ix ix_seq s_ix (me_var (pv 0)) (me_var (pv 4))))
      (ms_cons (ms_set (i := 6) S.nd rfl (by first | exact Or.inl rfl | exact Or.inr rfl) (me_lst ma_nil))
      (ms_cons (ms_for hp rfl (mi_rng1 (by rfl) B.z_range (ma_cons (me_callB c_len s_len (by rfl) B.z_len (by decide +kernel) (ma_cons (me_ix ix_seq s_ix (me_var (pv 1)) (me_var (pv 4))) ma_nil)) ma_nil)) (mg_name (pg_name (i := 7) S.nd rfl (by first | exact Or.inl rfl | exact Or.inr rfl))) (ms_cons (ms_if (mt_op op_gt s_gt (me_var (pv 4)) me_int (nomark _)) (ms_one (ms_set (i := 5) S.nd rfl (by first | exact Or.inl rfl | exact Or.inr rfl) (me_callB (call_max2 rfl) s_max (by rfl) B.z_max (by decide +kernel) (ma_cons (me_var (pv 5)) (ma_cons (me_ix ix_seq s_ix (me_var (pv 2)) (me_var (pv 7))) ma_nil))))) ms_nil)
      (ms_cons (ms_set (i := 5) S.nd rfl (by first | exact Or.inl rfl | exact Or.inr rfl) (me_op2 o_add s_add (me_var (pv 5)) (me_ix ix_seq s_ix (me_ix ix_seq s_ix (me_var (pv 1)) (me_var (pv 4))) (me_var (pv 7)))))
      (ms_one (ms_expr (me_app (pv 6) (me_var (pv 5))))))))
      (ms_cons (ms_set (i := 2) S.nd rfl (by first | exact Or.inl rfl | exact Or.inr rfl) (me_callTy call_list_of s_list (by rfl) B.z_list (by decide +kernel) (ma_cons (me_var (pv 6)) ma_nil)))
      (ms_one (ms_expr (me_app (pv 3) (me_var (pv 5))))))))))
      (ms_one (ms_ret (me_callTy call_tuple_of s_tuple (by rfl) B.z_tuple (by decide +kernel) (ma_cons (me_var (pv 3)) ma_nil))))))))
theorem sc_tupled : FnScope ["thing", "inner"] ["thing"] (defScope (topS 1)) := ⟨rfl, rfl, rfl, by decide +kernel, rfl, by decide +kernel, by decide +kernel⟩
theorem ok_tupled (B : Bi K mg cA)  {f : Addr} {fd : FuncData} (m : Nat) (D_self : Df P w K mg base cA "tupled" 1 m (F_tupled m)) (Fu : L2.Fun K "tupled" "tupled" (topS 1) f fd) : FnOk P w K mg base (L2.CX P w) (m + 1) f fd ["thing"] (SpD K cA 1 (F_tupled (m + 1))) :=
  have S := sc_tupled
  fn_okN (cA := cA) (N := ["thing", "inner"]) 1 1 Fu sc_tupled rfl rfl (fun cdv A outer s H E X hX hr tk hp => by
    subst hX
    exact (ms_cons (ms_if (mt_val (me_isiN (ts := [.list, .tuple]) (by decide) (pe_callB call_isiT (by rfl) B.z_isinstance (by decide +kernel) (pa_cons (me_var (pv 0)) (pa_cons (pe_tup (pa_cons (pe_bltn (by rfl) B.z_list (by decide +kernel) rfl) (pa_cons (pe_bltn (by rfl) B.z_tuple (by decide +kernel) rfl) pa_nil))) pa_nil))))) (ms_one (ms_ret (me_callTy call_tuple_of s_tuple (by rfl) B.z_tuple (by decide +kernel) (ma_cons (me_lc (own := [("inner", 1)]) rfl S.nd (mi_seq rfl (me_var (pv 0))) (by show BlkOk ["thing", "inner"] (defScope (topS 1)) _ [("inner", 1)]; exact ⟨rfl, by decide +kernel, by decide +kernel, by decide +kernel, by decide +kernel⟩) (fun _ _ _ _ _ => (mg_name (pg_name (i := 1) S.nd rfl (by first | exact Or.inl rfl | exact Or.inr rfl)))) (fun _ _ _ _ _ => pts_nil) (fun _ _ _ _ _ => (me_callD D_self rfl (hr.mono (Nat.le_refl _)) (by rfl) takes0 (ma_cons (me_var (pv 1)) ma_nil))) tt_nil (by decide) (by decide)) ma_nil)))) ms_nil)
      (ms_one (ms_ret (me_var (pv 0))))))
theorem ok_BadNumber (B : Bi K mg cA) (D_tupled : Df P w K mg base cA "tupled" 1 6 (F_tupled 6)) {f : Addr} {fd : FuncData} (Fu : L2.Fun K "__init__" "BadNumber.__init__" (meth (topS 3) 0) f fd) (S : FnScope ["self", "at"] ["self", "at"] (defScope (meth (topS 3) 0))) : FnOk P w K mg base (L2.CX P w) 7 f fd ["self", "at"] (SpI K (cA 2) "at" ini_BadNumber) :=
  init_ok (cA := cA) (N := ["self", "at"]) Fu S rfl rfl rfl (fun cdv A outer s H E X hX hr tk hp => by
    subst hX
    exact ⟨pv 0, (me_callD D_tupled rfl (hr.mono (by decide)) (by rfl) tk (ma_cons (me_var (pv 1)) ma_nil)), rfl⟩)
theorem sc_is_int : FnScope ["x"] ["x"] (defScope (topS 8)) := ⟨rfl, rfl, rfl, by decide +kernel, rfl, by decide +kernel, by decide +kernel⟩
theorem ok_is_int (B : Bi K mg cA)  {f : Addr} {fd : FuncData} (Fu : L2.Fun K "is_int" "is_int" (topS 8) f fd) : FnOk P w K mg base (L2.CX P w) 1 f fd ["x"] (SpD K cA 1 F_is_int) :=
  have S := sc_is_int
  fn_okN (cA := cA) (N := ["x"]) 1 0 Fu sc_is_int rfl rfl (fun cdv A outer s H E X hX hr tk hp => by
    subst hX
    exact (ms_one (ms_ret (me_and (me_isi1 (t := .int) (pe_callB call_isi (by rfl) B.z_isinstance (by decide +kernel) (pa_cons (me_var (pv 0)) (pa_cons (pe_bltn (by rfl) B.z_int (by decide +kernel) rfl) pa_nil)))) (me_one (me_not (me_isi1 (t := .bool) (pe_callB call_isi (by rfl) B.z_isinstance (by decide +kernel) (pa_cons (me_var (pv 0)) (pa_cons (pe_bltn (by rfl) B.z_bool (by decide +kernel) rfl) pa_nil))))))))))
theorem sc_queue_change : FnScope ["row", "i"] ["row", "i"] (defScope (topS 15)) := ⟨rfl, rfl, rfl, by decide +kernel, rfl, by decide +kernel, by decide +kernel⟩
theorem ok_queue_change (B : Bi K mg cA) (D_is_int : Df P w K mg base cA "is_int" 1 1 F_is_int) (R_BadNumber : Rz P w K mg base cA "BadNumber" 2 "at" ini_BadNumber 7) {f : Addr} {fd : FuncData} (Fu : L2.Fun K "queue_change" "queue_change" (topS 15) f fd) : FnOk P w K mg base (L2.CX P w) 9 f fd ["row", "i"] (SpD K cA 2 F_queue_change) :=
  have S := sc_queue_change
  fn_okN (cA := cA) (N := ["row", "i"]) 2 0 Fu sc_queue_change rfl rfl (fun cdv A outer s H E X hX hr tk hp => by
    subst hX
    exact (ms_cons (ms_if (PW.pt (mw_or (mt_not (mt_val (me_callD D_is_int rfl (hr.mono (by decide)) (by rfl) tk (ma_cons (me_var (pv 1)) ma_nil)))) (mw_or1 (mt_not (mt_ch op_le op_le s_le s_le me_int (me_var (pv 1)) (me_callB c_len s_len (by rfl) B.z_len (by decide +kernel) (ma_cons (me_var (pv 0)) ma_nil))))))) (ms_one (ms_raiseD R_BadNumber rfl (hr.mono (by decide)) tk rfl (by rfl) (me_var (pv 1)))) ms_nil)
      (ms_one (ms_ret (me_var (pv 1))))))
theorem sc_queue_dues : FnScope ["row", "total", "most", "dues", "time", "due"] ["row", "total", "most"] (defScope (topS 18)) := ⟨rfl, rfl, rfl, by decide +kernel, rfl, by decide +kernel, by decide +kernel⟩
theorem ok_queue_dues (B : Bi K mg cA)  {f : Addr} {fd : FuncData} (Fu : L2.Fun K "queue_dues" "queue_dues" (topS 18) f fd) : FnOk P w K mg base (L2.CX P w) 1 f fd ["row", "total", "most"] (SpD K cA 3 F_queue_dues) :=
  have S := sc_queue_dues
  fn_okN (cA := cA) (N := ["row", "total", "most", "dues", "time", "due"]) 3 3 Fu sc_queue_dues rfl rfl (fun cdv A outer s H E X hX hr tk hp => by
    subst hX
    exact (ms_cons (ms_set (i := 3) S.nd rfl (by first | exact Or.inl rfl | exact Or.inr rfl) (me_lst ma_nil))
      (ms_cons (ms_for hp rfl (mi_seq rfl (me_var (pv 0))) (mg_name (pg_name (i := 4) S.nd rfl (by first | exact Or.inl rfl | exact Or.inr rfl))) (ms_cons (ms_set (i := 5) S.nd rfl (by first | exact Or.inl rfl | exact Or.inr rfl) (me_op2 o_add s_add (me_var (pv 4)) (me_var (pv 1))))
      (ms_cons (ms_if (PW.pt (mw_and (mt_op op_gt s_gt (me_callB c_len s_len (by rfl) B.z_len (by decide +kernel) (ma_cons (me_var (pv 3)) ma_nil)) me_int (nomark _)) (mw_and1 (mt_op op_gt s_gt (me_op2 o_add s_add (me_ix ix_seq s_ix (me_var (pv 3)) (me_un un_neg s_neg me_int)) (me_var (pv 2))) (me_var (pv 5)) (nomark _))))) (ms_one (ms_set (i := 5) S.nd rfl (by first | exact Or.inl rfl | exact Or.inr rfl) (me_op2 o_add s_add (me_ix ix_seq s_ix (me_var (pv 3)) (me_un un_neg s_neg me_int)) (me_var (pv 2))))) ms_nil)
      (ms_one (ms_expr (me_app (pv 3) (me_var (pv 5))))))))
      (ms_one (ms_ret (me_var (pv 3)))))))
theorem sc_queue_lengths : FnScope ["z", "at"] ["z"] (defScope (topS 14)) := ⟨rfl, rfl, rfl, by decide +kernel, rfl, by decide +kernel, by decide +kernel⟩
theorem ok_queue_lengths (B : Bi K mg cA) (D_is_int : Df P w K mg base cA "is_int" 1 1 F_is_int) (R_BadNumber : Rz P w K mg base cA "BadNumber" 2 "at" ini_BadNumber 7) {f : Addr} {fd : FuncData} (Fu : L2.Fun K "queue_lengths" "queue_lengths" (topS 14) f fd) : FnOk P w K mg base (L2.CX P w) 9 f fd ["z"] (SpD K cA 1 F_queue_lengths) :=
  have S := sc_queue_lengths
  fn_okN (cA := cA) (N := ["z", "at"]) 1 1 Fu sc_queue_lengths rfl rfl (fun cdv A outer s H E X hX hr tk hp => by
    subst hX
    exact (ms_cons (ms_if (PW.pt (mw_or (mt_not (mt_val (me_isiN (ts := [.list, .tuple]) (by decide) (pe_callB call_isiT (by rfl) B.z_isinstance (by decide +kernel) (pa_cons (me_var (pv 0)) (pa_cons (pe_tup (pa_cons (pe_bltn (by rfl) B.z_list (by decide +kernel) rfl) (pa_cons (pe_bltn (by rfl) B.z_tuple (by decide +kernel) rfl) pa_nil))) pa_nil)))))) (mw_or1 (mt_op (op_eqD (hu64 hr)) s_eq (me_callB c_len s_len (by rfl) B.z_len (by decide +kernel) (ma_cons (me_var (pv 0)) ma_nil)) me_int (nomark _))))) (ms_one (ms_raiseD R_BadNumber rfl (hr.mono (by decide)) tk rfl (by rfl) (me_un un_neg s_neg me_int))) ms_nil)
      (ms_cons (ms_for hp rfl (mi_rng1 (by rfl) B.z_range (ma_cons (me_callB c_len s_len (by rfl) B.z_len (by decide +kernel) (ma_cons (me_var (pv 0)) ma_nil)) ma_nil)) (mg_name (pg_name (i := 1) S.nd rfl (by first | exact Or.inl rfl | exact Or.inr rfl))) (ms_one (ms_if (PW.pt (mw_or (mt_not (mt_val (me_callD D_is_int rfl (hr.mono (by decide)) (by rfl) tk (ma_cons (me_ix ix_seq s_ix (me_var (pv 0)) (me_var (pv 1))) ma_nil)))) (mw_or1 (mt_op op_lt s_lt (me_ix ix_seq s_ix (me_var (pv 0)) (me_var (pv 1))) me_int (nomark _))))) (ms_one (ms_raiseD R_BadNumber rfl (hr.mono (by decide)) tk rfl (by rfl) (me_var (pv 1)))) ms_nil)))
      (ms_one (ms_ret (me_callTy call_tuple_of s_tuple (by rfl) B.z_tuple (by decide +kernel) (ma_cons (me_var (pv 0)) ma_nil)))))))
theorem ok_BadRow (B : Bi K mg cA) (D_tupled : Df P w K mg base cA "tupled" 1 6 (F_tupled 6)) {f : Addr} {fd : FuncData} (Fu : L2.Fun K "__init__" "BadRow.__init__" (meth (topS 4) 0) f fd) (S : FnScope ["self", "at"] ["self", "at"] (defScope (meth (topS 4) 0))) : FnOk P w K mg base (L2.CX P w) 7 f fd ["self", "at"] (SpI K (cA 3) "at" ini_BadRow) :=
  init_ok (cA := cA) (N := ["self", "at"]) Fu S rfl rfl rfl (fun cdv A outer s H E X hX hr tk hp => by
    subst hX
    exact ⟨pv 0, (me_callD D_tupled rfl (hr.mono (by decide)) (by rfl) tk (ma_cons (me_var (pv 1)) ma_nil)), rfl⟩)
theorem sc_queue_times : FnScope ["times", "at"] ["times"] (defScope (topS 11)) := ⟨rfl, rfl, rfl, by decide +kernel, rfl, by decide +kernel, by decide +kernel⟩
theorem ok_queue_times (B : Bi K mg cA) (D_is_int : Df P w K mg base cA "is_int" 1 1 F_is_int) (R_BadRow : Rz P w K mg base cA "BadRow" 3 "at" ini_BadRow 7) {f : Addr} {fd : FuncData} (Fu : L2.Fun K "queue_times" "queue_times" (topS 11) f fd) : FnOk P w K mg base (L2.CX P w) 9 f fd ["times"] (SpD K cA 1 F_queue_times) :=
  have S := sc_queue_times
  fn_okN (cA := cA) (N := ["times", "at"]) 1 1 Fu sc_queue_times rfl rfl (fun cdv A outer s H E X hX hr tk hp => by
    subst hX
    exact (ms_cons (ms_if (PW.pt (mw_or (mt_not (mt_val (me_isiN (ts := [.list, .tuple]) (by decide) (pe_callB call_isiT (by rfl) B.z_isinstance (by decide +kernel) (pa_cons (me_var (pv 0)) (pa_cons (pe_tup (pa_cons (pe_bltn (by rfl) B.z_list (by decide +kernel) rfl) (pa_cons (pe_bltn (by rfl) B.z_tuple (by decide +kernel) rfl) pa_nil))) pa_nil)))))) (mw_or1 (mt_op (op_eqD (hu64 hr)) s_eq (me_callB c_len s_len (by rfl) B.z_len (by decide +kernel) (ma_cons (me_var (pv 0)) ma_nil)) me_int (nomark _))))) (ms_one (ms_raiseD R_BadRow rfl (hr.mono (by decide)) tk rfl (by rfl) (me_un un_neg s_neg me_int))) ms_nil)
      (ms_cons (ms_for hp rfl (mi_rng1 (by rfl) B.z_range (ma_cons (me_callB c_len s_len (by rfl) B.z_len (by decide +kernel) (ma_cons (me_var (pv 0)) ma_nil)) ma_nil)) (mg_name (pg_name (i := 1) S.nd rfl (by first | exact Or.inl rfl | exact Or.inr rfl))) (ms_one (ms_if (PW.pt (mw_or (mt_not (mt_val (me_callD D_is_int rfl (hr.mono (by decide)) (by rfl) tk (ma_cons (me_ix ix_seq s_ix (me_var (pv 0)) (me_var (pv 1))) ma_nil)))) (mw_or1 (PW.pt (mw_and (mt_op op_gt s_gt (me_var (pv 1)) me_int (nomark _)) (mw_and1 (mt_op op_lt s_lt (me_ix ix_seq s_ix (me_var (pv 0)) (me_var (pv 1))) (me_ix ix_seq s_ix (me_var (pv 0)) (me_op2 op_sub s_sub (me_var (pv 1)) me_int)) (nomark _)))))))) (ms_one (ms_raiseD R_BadRow rfl (hr.mono (by decide)) tk rfl (by rfl) (me_var (pv 1)))) ms_nil)))
      (ms_one (ms_ret (me_callTy call_tuple_of s_tuple (by rfl) B.z_tuple (by decide +kernel) (ma_cons (me_var (pv 0)) ma_nil)))))))
theorem sc_closed_done : FnScope ["times", "z", "i", "row", "lengths"] ["times", "z", "i"] (defScope (topS 20)) := ⟨rfl, rfl, rfl, by decide +kernel, rfl, by decide +kernel, by decide +kernel⟩
theorem ok_closed_done (B : Bi K mg cA) (D_queue_change : Df P w K mg base cA "queue_change" 2 9 F_queue_change) (D_queue_dues : Df P w K mg base cA "queue_dues" 3 1 F_queue_dues) (D_queue_lengths : Df P w K mg base cA "queue_lengths" 1 9 F_queue_lengths) (D_queue_times : Df P w K mg base cA "queue_times" 1 9 F_queue_times) {f : Addr} {fd : FuncData} (Fu : L2.Fun K "closed_done" "closed_done" (topS 20) f fd) : FnOk P w K mg base (L2.CX P w) 10 f fd ["times", "z", "i"] (SpD K cA 3 F_closed_done) :=
  have S := sc_closed_done
  fn_okN (cA := cA) (N := ["times", "z", "i", "row", "lengths"]) 3 2 Fu sc_closed_done rfl rfl (fun cdv A outer s H E X hX hr tk hp => by
    subst hX
    exact (ms_cons (ms_set (i := 3) S.nd rfl (by first | exact Or.inl rfl | exact Or.inr rfl) (me_callD D_queue_times rfl (hr.mono (by decide)) (by rfl) tk (ma_cons (me_var (pv 0)) ma_nil)))
      (ms_cons (ms_set (i := 4) S.nd rfl (by first | exact Or.inl rfl | exact Or.inr rfl) (me_callD D_queue_lengths rfl (hr.mono (by decide)) (by rfl) tk (ma_cons (me_var (pv 1)) ma_nil)))
      (ms_cons (ms_expr (me_callD D_queue_change rfl (hr.mono (by decide)) (by rfl) tk (ma_cons (me_var (pv 3)) (ma_cons (me_var (pv 2)) ma_nil))))
      (ms_one (ms_ret (me_ix ix_seq s_ix (me_callD D_queue_dues rfl (hr.mono (by decide)) (by rfl) tk (ma_cons (me_var (pv 3)) (ma_cons (me_callB (c_sumA rfl) s_sumA (by rfl) B.z_sum (by decide +kernel) (ma_cons (me_var (pv 4)) ma_nil)) (ma_cons (me_callB (c_maxA rfl) s_maxA (by rfl) B.z_max (by decide +kernel) (ma_cons (me_var (pv 4)) ma_nil)) ma_nil)))) (me_op2 op_sub s_sub (me_var (pv 2)) me_int))))))))
theorem sc_least_to_pass : FnScope ["z", "h", "lengths", "over"] ["z", "h"] (defScope (topS 24)) := ⟨rfl, rfl, rfl, by decide +kernel, rfl, by decide +kernel, by decide +kernel⟩
theorem ok_least_to_pass (B : Bi K mg cA) (D_is_int : Df P w K mg base cA "is_int" 1 1 F_is_int) (D_queue_lengths : Df P w K mg base cA "queue_lengths" 1 9 F_queue_lengths) (R_BadNumber : Rz P w K mg base cA "BadNumber" 2 "at" ini_BadNumber 7) {f : Addr} {fd : FuncData} (Fu : L2.Fun K "least_to_pass" "least_to_pass" (topS 24) f fd) : FnOk P w K mg base (L2.CX P w) 10 f fd ["z", "h"] (SpD K cA 2 F_least_to_pass) :=
  have S := sc_least_to_pass
  fn_okN (cA := cA) (N := ["z", "h", "lengths", "over"]) 2 2 Fu sc_least_to_pass rfl rfl (fun cdv A outer s H E X hX hr tk hp => by
    subst hX
    exact (ms_cons (ms_set (i := 2) S.nd rfl (by first | exact Or.inl rfl | exact Or.inr rfl) (me_callD D_queue_lengths rfl (hr.mono (by decide)) (by rfl) tk (ma_cons (me_var (pv 0)) ma_nil)))
      (ms_cons (ms_if (mt_not (mt_val (me_callD D_is_int rfl (hr.mono (by decide)) (by rfl) tk (ma_cons (me_var (pv 1)) ma_nil)))) (ms_one (ms_raiseD R_BadNumber rfl (hr.mono (by decide)) tk rfl (by rfl) (me_tup (ma_cons (me_var (pv 1)) (ma_cons me_int ma_nil))))) ms_nil)
      (ms_cons (ms_set (i := 3) S.nd rfl (by first | exact Or.inl rfl | exact Or.inr rfl) (me_op2 op_sub s_sub (me_var (pv 1)) (me_callB (c_sumA rfl) s_sumA (by rfl) B.z_sum (by decide +kernel) (ma_cons (me_var (pv 2)) ma_nil))))
      (ms_cons (ms_if (mt_op op_lt s_lt (me_var (pv 3)) me_int (nomark _)) (ms_one (ms_ret me_int)) ms_nil)
      (ms_one (ms_ret (me_op2 o_add s_add (me_op2 op_fdivW s_div (me_var (pv 3)) (me_callB (c_maxA rfl) s_maxA (by rfl) B.z_max (by decide +kernel) (ma_cons (me_var (pv 2)) ma_nil))) me_int))))))))
theorem sc_queue_join : FnScope ["z", "other", "lengths", "at"] ["z", "other"] (defScope (topS 23)) := ⟨rfl, rfl, rfl, by decide +kernel, rfl, by decide +kernel, by decide +kernel⟩
theorem ok_queue_join (B : Bi K mg cA) (D_is_int : Df P w K mg base cA "is_int" 1 1 F_is_int) (D_queue_lengths : Df P w K mg base cA "queue_lengths" 1 9 F_queue_lengths) (R_BadNumber : Rz P w K mg base cA "BadNumber" 2 "at" ini_BadNumber 7) {f : Addr} {fd : FuncData} (Fu : L2.Fun K "queue_join" "queue_join" (topS 23) f fd) : FnOk P w K mg base (L2.CX P w) 10 f fd ["z", "other"] (SpD K cA 2 F_queue_join) :=
  have S := sc_queue_join
  fn_okN (cA := cA) (N := ["z", "other", "lengths", "at"]) 2 2 Fu sc_queue_join rfl rfl (fun cdv A outer s H E X hX hr tk hp => by
    subst hX
    exact (ms_cons (ms_set (i := 2) S.nd rfl (by first | exact Or.inl rfl | exact Or.inr rfl) (me_callD D_queue_lengths rfl (hr.mono (by decide)) (by rfl) tk (ma_cons (me_var (pv 0)) ma_nil)))
      (ms_cons (ms_if (PW.pt (mw_or (mt_not (mt_val (me_isiN (ts := [.list, .tuple]) (by decide) (pe_callB call_isiT (by rfl) B.z_isinstance (by decide +kernel) (pa_cons (me_var (pv 1)) (pa_cons (pe_tup (pa_cons (pe_bltn (by rfl) B.z_list (by decide +kernel) rfl) (pa_cons (pe_bltn (by rfl) B.z_tuple (by decide +kernel) rfl) pa_nil))) pa_nil)))))) (mw_or1 (mt_op (op_eqD (hu64 hr)) s_eq (me_callB c_len s_len (by rfl) B.z_len (by decide +kernel) (ma_cons (me_var (pv 1)) ma_nil)) me_int (nomark _))))) (ms_one (ms_raiseD R_BadNumber rfl (hr.mono (by decide)) tk rfl (by rfl) (me_tup (ma_cons (me_un un_neg s_neg me_int) (ma_cons (me_un un_neg s_neg me_int) ma_nil))))) ms_nil)
      (ms_cons (ms_for hp rfl (mi_rng1 (by rfl) B.z_range (ma_cons (me_callB c_len s_len (by rfl) B.z_len (by decide +kernel) (ma_cons (me_var (pv 1)) ma_nil)) ma_nil)) (mg_name (pg_name (i := 3) S.nd rfl (by first | exact Or.inl rfl | exact Or.inr rfl))) (ms_one (ms_if (PW.pt (mw_or (mt_not (mt_val (me_callD D_is_int rfl (hr.mono (by decide)) (by rfl) tk (ma_cons (me_ix ix_seq s_ix (me_var (pv 1)) (me_var (pv 3))) ma_nil)))) (mw_or1 (mt_op op_lt s_lt (me_ix ix_seq s_ix (me_var (pv 1)) (me_var (pv 3))) me_int (nomark _))))) (ms_one (ms_raiseD R_BadNumber rfl (hr.mono (by decide)) tk rfl (by rfl) (me_tup (ma_cons (me_var (pv 3)) (ma_cons (me_un un_neg s_neg me_int) ma_nil))))) ms_nil)))
      (ms_one (ms_ret (me_tup (ma_cons (me_op2 o_add s_add (me_callB (c_sumA rfl) s_sumA (by rfl) B.z_sum (by decide +kernel) (ma_cons (me_var (pv 2)) ma_nil)) (me_callB (c_sumA rfl) s_sumA (by rfl) B.z_sum (by decide +kernel) (ma_cons (me_var (pv 1)) ma_nil))) (ma_cons (me_callB (call_max2 rfl) s_max (by rfl) B.z_max (by decide +kernel) (ma_cons (me_callB (c_maxA rfl) s_maxA (by rfl) B.z_max (by decide +kernel) (ma_cons (me_var (pv 2)) ma_nil)) (ma_cons (me_callB (c_maxA rfl) s_maxA (by rfl) B.z_max (by decide +kernel) (ma_cons (me_var (pv 1)) ma_nil)) ma_nil))) ma_nil)))))))))
theorem sc_queue_lag : FnScope ["highs", "d", "lengths"] ["highs", "d"] (defScope (topS 26)) := ⟨rfl, rfl, rfl, by decide +kernel, rfl, by decide +kernel, by decide +kernel⟩
theorem ok_queue_lag (B : Bi K mg cA) (D_is_int : Df P w K mg base cA "is_int" 1 1 F_is_int) (D_queue_lengths : Df P w K mg base cA "queue_lengths" 1 9 F_queue_lengths) (R_BadNumber : Rz P w K mg base cA "BadNumber" 2 "at" ini_BadNumber 7) {f : Addr} {fd : FuncData} (Fu : L2.Fun K "queue_lag" "queue_lag" (topS 26) f fd) : FnOk P w K mg base (L2.CX P w) 10 f fd ["highs", "d"] (SpD K cA 2 F_queue_lag) :=
  have S := sc_queue_lag
  fn_okN (cA := cA) (N := ["highs", "d", "lengths"]) 2 1 Fu sc_queue_lag rfl rfl (fun cdv A outer s H E X hX hr tk hp => by
    subst hX
    exact (ms_cons (ms_set (i := 2) S.nd rfl (by first | exact Or.inl rfl | exact Or.inr rfl) (me_callD D_queue_lengths rfl (hr.mono (by decide)) (by rfl) tk (ma_cons (me_var (pv 0)) ma_nil)))
      (ms_cons (ms_if (PW.pt (mw_or (mt_not (mt_val (me_callD D_is_int rfl (hr.mono (by decide)) (by rfl) tk (ma_cons (me_var (pv 1)) ma_nil)))) (mw_or1 (mt_op op_lt s_lt (me_var (pv 1)) me_int (nomark _))))) (ms_one (ms_raiseD R_BadNumber rfl (hr.mono (by decide)) tk rfl (by rfl) (me_tup (ma_cons (me_var (pv 1)) (ma_cons me_int ma_nil))))) ms_nil)
      (ms_cons (ms_if (mt_op op_ge s_ge (me_var (pv 1)) (me_callB (c_maxA rfl) s_maxA (by rfl) B.z_max (by decide +kernel) (ma_cons (me_var (pv 2)) ma_nil)) (nomark _)) (ms_one (ms_ret (me_callB (c_sumA rfl) s_sumA (by rfl) B.z_sum (by decide +kernel) (ma_cons (me_var (pv 2)) ma_nil)))) ms_nil)
      (ms_one (ms_ret me_str))))))
theorem sc_queue_sums : FnScope ["z", "lengths"] ["z"] (defScope (topS 22)) := ⟨rfl, rfl, rfl, by decide +kernel, rfl, by decide +kernel, by decide +kernel⟩
theorem ok_queue_sums (B : Bi K mg cA) (D_queue_lengths : Df P w K mg base cA "queue_lengths" 1 9 F_queue_lengths) {f : Addr} {fd : FuncData} (Fu : L2.Fun K "queue_sums" "queue_sums" (topS 22) f fd) : FnOk P w K mg base (L2.CX P w) 10 f fd ["z"] (SpD K cA 1 F_queue_sums) :=
  have S := sc_queue_sums
  fn_okN (cA := cA) (N := ["z", "lengths"]) 1 1 Fu sc_queue_sums rfl rfl (fun cdv A outer s H E X hX hr tk hp => by
    subst hX
    exact (ms_cons (ms_set (i := 1) S.nd rfl (by first | exact Or.inl rfl | exact Or.inr rfl) (me_callD D_queue_lengths rfl (hr.mono (by decide)) (by rfl) tk (ma_cons (me_var (pv 0)) ma_nil)))
      (ms_one (ms_ret (me_tup (ma_cons (me_callB (c_sumA rfl) s_sumA (by rfl) B.z_sum (by decide +kernel) (ma_cons (me_var (pv 1)) ma_nil)) (ma_cons (me_callB (c_maxA rfl) s_maxA (by rfl) B.z_max (by decide +kernel) (ma_cons (me_var (pv 1)) ma_nil)) ma_nil)))))))
theorem sc_stream_done : FnScope ["z", "d", "i", "lengths"] ["z", "d", "i"] (defScope (topS 21)) := ⟨rfl, rfl, rfl, by decide +kernel, rfl, by decide +kernel, by decide +kernel⟩
theorem ok_stream_done (B : Bi K mg cA) (D_is_int : Df P w K mg base cA "is_int" 1 1 F_is_int) (D_queue_lengths : Df P w K mg base cA "queue_lengths" 1 9 F_queue_lengths) (R_BadNumber : Rz P w K mg base cA "BadNumber" 2 "at" ini_BadNumber 7) {f : Addr} {fd : FuncData} (Fu : L2.Fun K "stream_done" "stream_done" (topS 21) f fd) : FnOk P w K mg base (L2.CX P w) 10 f fd ["z", "d", "i"] (SpD K cA 3 F_stream_done) :=
  have S := sc_stream_done
  fn_okN (cA := cA) (N := ["z", "d", "i", "lengths"]) 3 1 Fu sc_stream_done rfl rfl (fun cdv A outer s H E X hX hr tk hp => by
    subst hX
    exact (ms_cons (ms_set (i := 3) S.nd rfl (by first | exact Or.inl rfl | exact Or.inr rfl) (me_callD D_queue_lengths rfl (hr.mono (by decide)) (by rfl) tk (ma_cons (me_var (pv 0)) ma_nil)))
      (ms_cons (ms_if (PW.pt (mw_or (mt_not (mt_val (me_callD D_is_int rfl (hr.mono (by decide)) (by rfl) tk (ma_cons (me_var (pv 1)) ma_nil)))) (mw_or1 (mt_op op_lt s_lt (me_var (pv 1)) me_int (nomark _))))) (ms_one (ms_raiseD R_BadNumber rfl (hr.mono (by decide)) tk rfl (by rfl) (me_tup (ma_cons (me_var (pv 1)) (ma_cons me_int ma_nil))))) ms_nil)
      (ms_cons (ms_if (PW.pt (mw_or (mt_not (mt_val (me_callD D_is_int rfl (hr.mono (by decide)) (by rfl) tk (ma_cons (me_var (pv 2)) ma_nil)))) (mw_or1 (mt_op op_lt s_lt (me_var (pv 2)) me_int (nomark _))))) (ms_one (ms_raiseD R_BadNumber rfl (hr.mono (by decide)) tk rfl (by rfl) (me_tup (ma_cons (me_var (pv 2)) (ma_cons me_int ma_nil))))) ms_nil)
      (ms_one (ms_ret (me_op2 o_add s_add (me_callB (c_sumA rfl) s_sumA (by rfl) B.z_sum (by decide +kernel) (ma_cons (me_var (pv 3)) ma_nil)) (me_op2 o_mulA s_mulA (me_var (pv 2)) (me_callB (call_max2 rfl) s_max (by rfl) B.z_max (by decide +kernel) (ma_cons (me_var (pv 1)) (ma_cons (me_callB (c_maxA rfl) s_maxA (by rfl) B.z_max (by decide +kernel) (ma_cons (me_var (pv 3)) ma_nil)) ma_nil)))))))))))
theorem sc__law_heard : FnScope ["which", "one", "two", "three", "heard", "error"] ["which", "one", "two", "three"] (defScope (topS 34)) := ⟨rfl, rfl, rfl, by decide +kernel, rfl, by decide +kernel, by decide +kernel⟩
theorem ok__law_heard (B : Bi K mg cA) (D_closed_done : Df P w K mg base cA "closed_done" 3 10 F_closed_done) (D_least_to_pass : Df P w K mg base cA "least_to_pass" 2 10 F_least_to_pass) (D_queue_join : Df P w K mg base cA "queue_join" 2 10 F_queue_join) (D_queue_lag : Df P w K mg base cA "queue_lag" 2 10 F_queue_lag) (D_queue_sums : Df P w K mg base cA "queue_sums" 1 10 F_queue_sums) (D_stream_done : Df P w K mg base cA "stream_done" 3 10 F_stream_done) {f : Addr} {fd : FuncData} (Fu : L2.Fun K "_law_heard" "_law_heard" (topS 34) f fd) : FnOk P w K mg base (L2.CX P w) 11 f fd ["which", "one", "two", "three"] (SpD K cA 4 F__law_heard) :=
  have S := sc__law_heard
  fn_okN (cA := cA) (N := ["which", "one", "two", "three", "heard", "error"]) 4 2 Fu sc__law_heard rfl rfl (fun cdv A outer s H E X hX hr tk hp => by
    subst hX
    exact (ms_cons (ms_set (i := 4) S.nd rfl (by first | exact Or.inl rfl | exact Or.inr rfl) (me_tup (ma_cons me_str ma_nil)))
      (ms_cons (ms_try rfl rfl rfl S.nd tk (by exact B.exmL _ (by decide)) (fun W1 pn xe tk1 hp1 => (ms_one (ms_if (mt_op (op_eqD (hu64 hr)) s_eq (me_var (pv 0)) me_int (nomark _)) (ms_one (ms_set (i := 4) S.nd rfl (by first | exact Or.inl rfl | exact Or.inr rfl) (me_tup (ma_cons me_str (ma_cons (me_callD D_closed_done rfl (hr.mono (by decide)) (by rfl) tk1 (ma_cons (me_var (pv 1)) (ma_cons (me_var (pv 2)) (ma_cons (me_var (pv 3)) ma_nil)))) ma_nil))))) (ms_one (ms_if (mt_op (op_eqD (hu64 hr)) s_eq (me_var (pv 0)) me_int (nomark _)) (ms_one (ms_set (i := 4) S.nd rfl (by first | exact Or.inl rfl | exact Or.inr rfl) (me_tup (ma_cons me_str (ma_cons (me_callD D_stream_done rfl (hr.mono (by decide)) (by rfl) tk1 (ma_cons (me_var (pv 1)) (ma_cons (me_var (pv 2)) (ma_cons (me_var (pv 3)) ma_nil)))) ma_nil))))) (ms_one (ms_if (mt_op (op_eqD (hu64 hr)) s_eq (me_var (pv 0)) me_int (nomark _)) (ms_one (ms_set (i := 4) S.nd rfl (by first | exact Or.inl rfl | exact Or.inr rfl) (me_tup (ma_cons me_str (ma_cons (me_callD D_least_to_pass rfl (hr.mono (by decide)) (by rfl) tk1 (ma_cons (me_var (pv 1)) (ma_cons (me_var (pv 2)) ma_nil))) ma_nil))))) (ms_one (ms_if (mt_op (op_eqD (hu64 hr)) s_eq (me_var (pv 0)) me_int (nomark _)) (ms_one (ms_set (i := 4) S.nd rfl (by first | exact Or.inl rfl | exact Or.inr rfl) (me_tup (ma_cons me_str (ma_cons (me_callD D_queue_lag rfl (hr.mono (by decide)) (by rfl) tk1 (ma_cons (me_var (pv 1)) (ma_cons (me_var (pv 2)) ma_nil))) ma_nil))))) (ms_one (ms_if (mt_op (op_eqD (hu64 hr)) s_eq (me_var (pv 0)) me_int (nomark _)) (ms_one (ms_set (i := 4) S.nd rfl (by first | exact Or.inl rfl | exact Or.inr rfl) (me_tup (ma_cons me_str (ma_cons (me_callD D_queue_join rfl (hr.mono (by decide)) (by rfl) tk1 (ma_cons (me_var (pv 1)) (ma_cons (me_var (pv 2)) ma_nil))) ma_nil))))) (ms_one (ms_set (i := 4) S.nd rfl (by first | exact Or.inl rfl | exact Or.inr rfl) (me_tup (ma_cons me_str (ma_cons (me_callD D_queue_sums rfl (hr.mono (by decide)) (by rfl) tk1 (ma_cons (me_var (pv 1)) ma_nil)) ma_nil)))))))))))))))) (ClsOk.named (i := 5) ⟨rfl, by decide, Or.inl B.m_BadRow⟩ rfl rfl (fun a oe cls d pn hz hf => (ms_one (ms_set (i := 4) S.nd rfl (by first | exact Or.inl rfl | exact Or.inr rfl) (me_tup (ma_cons me_str (ma_cons (isx_1 B.errs (j := 1) (by decide) (pe_callB (call_isx hz hf) (by rfl) B.z_isinstance (by decide +kernel) (pa_cons (pv 5) (pa_cons (pe_glob (by rfl) B.m_DoneError rfl) pa_nil)))) (ma_cons (isx_N B.errs (js := [2, 4]) (by decide) (by decide) (pe_callB (call_isx hz hf) (by rfl) B.z_isinstance (by decide +kernel) (pa_cons (pv 5) (pa_cons (pe_tup (pa_cons (pe_glob (by rfl) B.m_BadNumber rfl) (pa_cons (pe_glob (by rfl) B.m_BadCase rfl) pa_nil))) pa_nil)))) (ma_cons (me_fld B.errs rfl hz hf (Or.inl rfl) (pv 5)) ma_nil)))))))) (ClsOk.named (i := 5) ⟨rfl, by decide, Or.inl B.m_BadNumber⟩ rfl rfl (fun a oe cls d pn hz hf => (ms_one (ms_set (i := 4) S.nd rfl (by first | exact Or.inl rfl | exact Or.inr rfl) (me_tup (ma_cons me_str (ma_cons (isx_1 B.errs (j := 1) (by decide) (pe_callB (call_isx hz hf) (by rfl) B.z_isinstance (by decide +kernel) (pa_cons (pv 5) (pa_cons (pe_glob (by rfl) B.m_DoneError rfl) pa_nil)))) (ma_cons (isx_N B.errs (js := [3, 4]) (by decide) (by decide) (pe_callB (call_isx hz hf) (by rfl) B.z_isinstance (by decide +kernel) (pa_cons (pv 5) (pa_cons (pe_tup (pa_cons (pe_glob (by rfl) B.m_BadRow rfl) (pa_cons (pe_glob (by rfl) B.m_BadCase rfl) pa_nil))) pa_nil)))) (ma_cons (me_fld B.errs rfl hz hf (Or.inl rfl) (pv 5)) ma_nil)))))))) (ClsOk.plain ⟨rfl, by decide, Or.inl B.m_DoneError⟩ (fun a oe cls d pn hz hf => (ms_one (ms_set (i := 4) S.nd rfl (by first | exact Or.inl rfl | exact Or.inr rfl) (me_tup (ma_cons me_str ma_nil))))) ClsOk.nil))))
      (ms_one (ms_ret (me_var (pv 4)))))))
theorem sc__law_just : FnScope ["told", "due", "todo", "turn", "one", "two", "at"] ["told", "due"] (defScope (topS 30)) := ⟨rfl, rfl, rfl, by decide +kernel, rfl, by decide +kernel, by decide +kernel⟩
theorem ok__law_just (B : Bi K mg cA)  {f : Addr} {fd : FuncData} (Fu : L2.Fun K "_law_just" "_law_just" (topS 30) f fd) : FnOk P w K mg base (L2.CX P w) 1 f fd ["told", "due"] (SpD K cA 2 F__law_just) :=
  have S := sc__law_just
  fn_okN (cA := cA) (N := ["told", "due", "todo", "turn", "one", "two", "at"]) 2 5 Fu sc__law_just rfl rfl (fun cdv A outer s H E X hX hr tk hp => by
    subst hX
    exact (ms_cons (ms_set (i := 2) S.nd rfl (by first | exact Or.inl rfl | exact Or.inr rfl) (me_lst (ma_cons (me_tup (ma_cons (me_var (pv 0)) (ma_cons (me_var (pv 1)) ma_nil))) ma_nil)))
      (ms_cons (ms_for hp rfl (mi_rng1 (by rfl) B.z_range (ma_cons me_int ma_nil)) (mg_name (pg_name (i := 3) S.nd rfl (by first | exact Or.inl rfl | exact Or.inr rfl))) (ms_cons (ms_if (mt_op (op_eqD (hu64 hr)) s_eq (me_callB c_len s_len (by rfl) B.z_len (by decide +kernel) (ma_cons (me_var (pv 2)) ma_nil)) me_int (nomark _)) (ms_one ms_break) ms_nil)
      (ms_cons (ms_asgT (me_pop (pv 2)) (mg_tup (pg_tup rfl (pgs_cons (pg_name (i := 4) S.nd rfl (by first | exact Or.inl rfl | exact Or.inr rfl)) (pgs_cons (pg_name (i := 5) S.nd rfl (by first | exact Or.inl rfl | exact Or.inr rfl)) pgs_nil))) rfl))
      (ms_one (ms_if (mt_val (me_isi1 (t := .tuple) (pe_callB call_isi (by rfl) B.z_isinstance (by decide +kernel) (pa_cons (me_var (pv 5)) (pa_cons (pe_bltn (by rfl) B.z_tuple (by decide +kernel) rfl) pa_nil))))) (ms_cons (ms_if (PW.pt (mw_or (mt_not (mt_val (me_isi1 (t := .tuple) (pe_callB call_isi (by rfl) B.z_isinstance (by decide +kernel) (pa_cons (me_var (pv 4)) (pa_cons (pe_bltn (by rfl) B.z_tuple (by decide +kernel) rfl) pa_nil)))))) (mw_or1 (mt_op (op_neD (hu64 hr)) s_ne (me_callB c_len s_len (by rfl) B.z_len (by decide +kernel) (ma_cons (me_var (pv 4)) ma_nil)) (me_callB c_len s_len (by rfl) B.z_len (by decide +kernel) (ma_cons (me_var (pv 5)) ma_nil)) (nomark _))))) (ms_one (ms_ret me_bl)) ms_nil)
      (ms_one (ms_for hp rfl (mi_rng1 (by rfl) B.z_range (ma_cons (me_callB c_len s_len (by rfl) B.z_len (by decide +kernel) (ma_cons (me_var (pv 5)) ma_nil)) ma_nil)) (mg_name (pg_name (i := 6) S.nd rfl (by first | exact Or.inl rfl | exact Or.inr rfl))) (ms_one (ms_expr (me_app (pv 2) (me_tup (ma_cons (me_ix ix_seq s_ix (me_var (pv 4)) (me_var (pv 6))) (ma_cons (me_ix ix_seq s_ix (me_var (pv 5)) (me_var (pv 6))) ma_nil))))))))) (ms_one (ms_if (PW.pt (mw_or (mt_isN (me_var (pv 5))) (mw_or (mt_op op_isB s_isB (me_var (pv 5)) me_bl (nomark _)) (mw_or1 (mt_op op_isB s_isB (me_var (pv 5)) me_bl (nomark _)))))) (ms_one (ms_if (PW.pt (mw_or (mt_op (op_neD (hu64 hr)) s_ne (me_isN (me_var (pv 4))) (me_isN (me_var (pv 5))) (nomark _)) (mw_or (mt_op (op_neD (hu64 hr)) s_ne (me_cmp op_isB s_isB (me_var (pv 4)) me_bl (nomark _)) (me_cmp op_isB s_isB (me_var (pv 5)) me_bl (nomark _)) (nomark _)) (mw_or1 (mt_op (op_neD (hu64 hr)) s_ne (me_cmp op_isB s_isB (me_var (pv 4)) me_bl (nomark _)) (me_cmp op_isB s_isB (me_var (pv 5)) me_bl (nomark _)) (nomark _)))))) (ms_one (ms_ret me_bl)) ms_nil)) (ms_one (ms_if (mt_val (me_isi1 (t := .int) (pe_callB call_isi (by rfl) B.z_isinstance (by decide +kernel) (pa_cons (me_var (pv 5)) (pa_cons (pe_bltn (by rfl) B.z_int (by decide +kernel) rfl) pa_nil))))) (ms_one (ms_if (PW.pt (mw_or (mt_val (me_isi1 (t := .bool) (pe_callB call_isi (by rfl) B.z_isinstance (by decide +kernel) (pa_cons (me_var (pv 4)) (pa_cons (pe_bltn (by rfl) B.z_bool (by decide +kernel) rfl) pa_nil))))) (mw_or (mt_not (mt_val (me_isi1 (t := .int) (pe_callB call_isi (by rfl) B.z_isinstance (by decide +kernel) (pa_cons (me_var (pv 4)) (pa_cons (pe_bltn (by rfl) B.z_int (by decide +kernel) rfl) pa_nil)))))) (mw_or1 (mt_op (op_neD (hu64 hr)) s_ne (me_var (pv 4)) (me_var (pv 5)) (nomark _)))))) (ms_one (ms_ret me_bl)) ms_nil)) (ms_one (ms_if (PW.pt (mw_or (mt_not (mt_val (me_isi1 (t := .str) (pe_callB call_isi (by rfl) B.z_isinstance (by decide +kernel) (pa_cons (me_var (pv 4)) (pa_cons (pe_bltn (by rfl) B.z_str (by decide +kernel) rfl) pa_nil)))))) (mw_or1 (mt_op (op_neD (hu64 hr)) s_ne (me_var (pv 4)) (me_var (pv 5)) (nomark _))))) (ms_one (ms_ret me_bl)) ms_nil)))))))))))
      (ms_one (ms_ret (me_cmp (op_eqD (hu64 hr)) s_eq (me_callB c_len s_len (by rfl) B.z_len (by decide +kernel) (ma_cons (me_var (pv 2)) ma_nil)) me_int (nomark _)))))))
theorem ok_TooMany (B : Bi K mg cA)  {f : Addr} {fd : FuncData} (Fu : L2.Fun K "__init__" "TooMany.__init__" (meth (topS 6) 0) f fd) (S : FnScope ["self", "limit"] ["self", "limit"] (defScope (meth (topS 6) 0))) : FnOk P w K mg base (L2.CX P w) 1 f fd ["self", "limit"] (SpI K (cA 5) "limit" ini_TooMany) :=
  init_ok (cA := cA) (N := ["self", "limit"]) Fu S rfl rfl rfl (fun cdv A outer s H E X hX hr tk hp => by
    subst hX
    exact ⟨pv 0, (me_var (pv 1)), rfl⟩)
theorem sc_queue_cells : FnScope ["many", "wide"] ["many", "wide"] (defScope (topS 16)) := ⟨rfl, rfl, rfl, by decide +kernel, rfl, by decide +kernel, by decide +kernel⟩
theorem ok_queue_cells (B : Bi K mg cA) (R_TooMany : Rz P w K mg base cA "TooMany" 5 "limit" ini_TooMany 1) {f : Addr} {fd : FuncData} (Fu : L2.Fun K "queue_cells" "queue_cells" (topS 16) f fd) : FnOk P w K mg base (L2.CX P w) 3 f fd ["many", "wide"] (SpD K cA 2 F_queue_cells) :=
  have S := sc_queue_cells
  fn_okN (cA := cA) (N := ["many", "wide"]) 2 0 Fu sc_queue_cells rfl rfl (fun cdv A outer s H E X hX hr tk hp => by
    subst hX
    exact (ms_one (ms_if (mt_op op_gt s_gt (me_op2 o_mulA s_mulA (me_var (pv 0)) (me_var (pv 1))) (B.c_MOST_CELLS (by rfl)) (nomark _)) (ms_one (ms_raiseD R_TooMany rfl (hr.mono (by decide)) tk rfl (by rfl) (B.c_MOST_CELLS (by rfl)))) ms_nil)))
theorem sc_queue_leavings : FnScope ["row", "rows", "told", "ahead", "at", "now", "mine", "side"] ["row", "rows"] (defScope (topS 17)) := ⟨rfl, rfl, rfl, by decide +kernel, rfl, by decide +kernel, by decide +kernel⟩
theorem ok_queue_leavings (B : Bi K mg cA)  {f : Addr} {fd : FuncData} (Fu : L2.Fun K "queue_leavings" "queue_leavings" (topS 17) f fd) : FnOk P w K mg base (L2.CX P w) 1 f fd ["row", "rows"] (SpD K cA 2 F_queue_leavings) :=
  have S := sc_queue_leavings
  fn_okN (cA := cA) (N := ["row", "rows", "told", "ahead", "at", "now", "mine", "side"]) 2 6 Fu sc_queue_leavings rfl rfl (fun cdv A outer s H E X hX hr tk hp => by
    subst hX
    exact (ms_cons (ms_set (i := 2) S.nd rfl (by first | exact Or.inl rfl | exact Or.inr rfl) (me_lst ma_nil))
      (ms_cons (ms_set (i := 3) S.nd rfl (by first | exact Or.inl rfl | exact Or.inr rfl) me_non)
      (ms_cons (ms_for hp rfl (mi_rng1 (by rfl) B.z_range (ma_cons (me_callB c_len s_len (by rfl) B.z_len (by decide +kernel) (ma_cons (me_var (pv 0)) ma_nil)) ma_nil)) (mg_name (pg_name (i := 4) S.nd rfl (by first | exact Or.inl rfl | exact Or.inr rfl))) (ms_cons (ms_set (i := 5) S.nd rfl (by first | exact Or.inl rfl | exact Or.inr rfl) (me_ix ix_seq s_ix (me_var (pv 0)) (me_var (pv 4))))
      (ms_cons (ms_set (i := 6) S.nd rfl (by first | exact Or.inl rfl | exact Or.inr rfl) (me_lst ma_nil))
      (ms_cons (ms_for hp rfl (mi_rng1 (by rfl) B.z_range (ma_cons (me_callB c_len s_len (by rfl) B.z_len (by decide +kernel) (ma_cons (me_ix ix_seq s_ix (me_var (pv 1)) (me_var (pv 4))) ma_nil)) ma_nil)) (mg_name (pg_name (i := 7) S.nd rfl (by first | exact Or.inl rfl | exact Or.inr rfl))) (ms_cons (ms_if (PW.pt (mw_and (mt_noN (me_var (pv 3))) (mw_and1 (mt_op op_gt s_gt (me_ix ix_seq s_ix (me_var (pv 3)) (me_var (pv 7))) (me_var (pv 5)) (nomark _))))) (ms_one (ms_set (i := 5) S.nd rfl (by first | exact Or.inl rfl | exact Or.inr rfl) (me_ix ix_seq s_ix (me_var (pv 3)) (me_var (pv 7))))) ms_nil)
      (ms_cons (ms_set (i := 5) S.nd rfl (by first | exact Or.inl rfl | exact Or.inr rfl) (me_op2 o_add s_add (me_var (pv 5)) (me_ix ix_seq s_ix (me_ix ix_seq s_ix (me_var (pv 1)) (me_var (pv 4))) (me_var (pv 7)))))
      (ms_one (ms_expr (me_app (pv 6) (me_var (pv 5))))))))
      (ms_cons (ms_expr (me_app (pv 2) (me_callTy call_tuple_of s_tuple (by rfl) B.z_tuple (by decide +kernel) (ma_cons (me_var (pv 6)) ma_nil))))
      (ms_one (ms_set (i := 3) S.nd rfl (by first | exact Or.inl rfl | exact Or.inr rfl) (me_var (pv 6)))))))))
      (ms_one (ms_ret (me_callTy call_tuple_of s_tuple (by rfl) B.z_tuple (by decide +kernel) (ma_cons (me_var (pv 2)) ma_nil))))))))
theorem sc_queue_rows : FnScope ["hours", "rows", "at", "row", "z"] ["hours"] (defScope (topS 12)) := ⟨rfl, rfl, rfl, by decide +kernel, rfl, by decide +kernel, by decide +kernel⟩
theorem ok_queue_rows (B : Bi K mg cA) (D_is_int : Df P w K mg base cA "is_int" 1 1 F_is_int) (R_BadRow : Rz P w K mg base cA "BadRow" 3 "at" ini_BadRow 7) {f : Addr} {fd : FuncData} (Fu : L2.Fun K "queue_rows" "queue_rows" (topS 12) f fd) : FnOk P w K mg base (L2.CX P w) 9 f fd ["hours"] (SpD K cA 1 F_queue_rows) :=
  have S := sc_queue_rows
  fn_okN (cA := cA) (N := ["hours", "rows", "at", "row", "z"]) 1 4 Fu sc_queue_rows rfl rfl (fun cdv A outer s H E X hX hr tk hp => by
    subst hX
    exact (ms_cons (ms_set (i := 1) S.nd rfl (by first | exact Or.inl rfl | exact Or.inr rfl) (me_lst ma_nil))
      (ms_cons (ms_for hp rfl (mi_rng1 (by rfl) B.z_range (ma_cons (me_callB c_len s_len (by rfl) B.z_len (by decide +kernel) (ma_cons (me_var (pv 0)) ma_nil)) ma_nil)) (mg_name (pg_name (i := 2) S.nd rfl (by first | exact Or.inl rfl | exact Or.inr rfl))) (ms_cons (ms_set (i := 3) S.nd rfl (by first | exact Or.inl rfl | exact Or.inr rfl) (me_ix ix_seq s_ix (me_var (pv 0)) (me_var (pv 2))))
      (ms_cons (ms_if (PW.pt (mw_or (mt_not (mt_val (me_isiN (ts := [.list, .tuple]) (by decide) (pe_callB call_isiT (by rfl) B.z_isinstance (by decide +kernel) (pa_cons (me_var (pv 3)) (pa_cons (pe_tup (pa_cons (pe_bltn (by rfl) B.z_list (by decide +kernel) rfl) (pa_cons (pe_bltn (by rfl) B.z_tuple (by decide +kernel) rfl) pa_nil))) pa_nil)))))) (mw_or1 (mt_op (op_eqD (hu64 hr)) s_eq (me_callB c_len s_len (by rfl) B.z_len (by decide +kernel) (ma_cons (me_var (pv 3)) ma_nil)) me_int (nomark _))))) (ms_one (ms_raiseD R_BadRow rfl (hr.mono (by decide)) tk rfl (by rfl) (me_tup (ma_cons (me_var (pv 2)) (ma_cons (me_un un_neg s_neg me_int) ma_nil))))) ms_nil)
      (ms_cons (ms_if (PW.pt (mw_or (PW.pt (mw_and (mt_op op_gt s_gt (me_var (pv 2)) me_int (nomark _)) (mw_and1 (mt_op (op_neD (hu64 hr)) s_ne (me_callB c_len s_len (by rfl) B.z_len (by decide +kernel) (ma_cons (me_var (pv 3)) ma_nil)) (me_callB c_len s_len (by rfl) B.z_len (by decide +kernel) (ma_cons (me_ix ix_seq s_ix (me_var (pv 1)) me_int) ma_nil)) (nomark _))))) (mw_or1 (mt_not (mt_val (me_callB (cr_all rfl) s_all (by rfl) B.z_all (by decide +kernel) (ma_cons (me_lc (own := [("z", 4)]) rfl S.nd (mi_seq rfl (me_var (pv 3))) (by show BlkOk ["hours", "rows", "at", "row", "z"] (defScope (topS 12)) _ [("z", 4)]; exact ⟨rfl, by decide +kernel, by decide +kernel, by decide +kernel, by decide +kernel⟩) (fun _ _ _ _ _ => (mg_name (pg_name (i := 4) S.nd rfl (by first | exact Or.inl rfl | exact Or.inr rfl)))) (fun _ _ _ _ _ => pts_nil) (fun _ _ _ _ _ => (me_and (me_callD D_is_int rfl (hr.mono (by decide)) (by rfl) takes0 (ma_cons (me_var (pv 4)) ma_nil)) (me_one (me_cmp op_ge s_ge (me_var (pv 4)) me_int (nomark _))))) tt_nil (by decide) (by decide)) ma_nil))))))) (ms_one (ms_raiseD R_BadRow rfl (hr.mono (by decide)) tk rfl (by rfl) (me_tup (ma_cons (me_var (pv 2)) (ma_cons (me_un un_neg s_neg me_int) ma_nil))))) ms_nil)
      (ms_one (ms_expr (me_app (pv 1) (me_callTy call_tuple_of s_tuple (by rfl) B.z_tuple (by decide +kernel) (ma_cons (me_var (pv 3)) ma_nil)))))))))
      (ms_one (ms_ret (me_callTy call_tuple_of s_tuple (by rfl) B.z_tuple (by decide +kernel) (ma_cons (me_var (pv 1)) ma_nil)))))))
theorem sc_queue_table : FnScope ["hours", "many"] ["hours", "many"] (defScope (topS 13)) := ⟨rfl, rfl, rfl, by decide +kernel, rfl, by decide +kernel, by decide +kernel⟩
theorem ok_queue_table (B : Bi K mg cA) (D_queue_rows : Df P w K mg base cA "queue_rows" 1 9 F_queue_rows) (R_BadRow : Rz P w K mg base cA "BadRow" 3 "at" ini_BadRow 7) {f : Addr} {fd : FuncData} (Fu : L2.Fun K "queue_table" "queue_table" (topS 13) f fd) : FnOk P w K mg base (L2.CX P w) 10 f fd ["hours", "many"] (SpD K cA 2 F_queue_table) :=
  have S := sc_queue_table
  fn_okN (cA := cA) (N := ["hours", "many"]) 2 0 Fu sc_queue_table rfl rfl (fun cdv A outer s H E X hX hr tk hp => by
    subst hX
    exact (ms_cons (ms_if (PW.pt (mw_or (mt_not (mt_val (me_isiN (ts := [.list, .tuple]) (by decide) (pe_callB call_isiT (by rfl) B.z_isinstance (by decide +kernel) (pa_cons (me_var (pv 0)) (pa_cons (pe_tup (pa_cons (pe_bltn (by rfl) B.z_list (by decide +kernel) rfl) (pa_cons (pe_bltn (by rfl) B.z_tuple (by decide +kernel) rfl) pa_nil))) pa_nil)))))) (mw_or1 (mt_op (op_neD (hu64 hr)) s_ne (me_callB c_len s_len (by rfl) B.z_len (by decide +kernel) (ma_cons (me_var (pv 0)) ma_nil)) (me_var (pv 1)) (nomark _))))) (ms_one (ms_raiseD R_BadRow rfl (hr.mono (by decide)) tk rfl (by rfl) (me_tup (ma_cons (me_un un_neg s_neg me_int) (ma_cons (me_un un_neg s_neg me_int) ma_nil))))) ms_nil)
      (ms_one (ms_ret (me_callD D_queue_rows rfl (hr.mono (by decide)) (by rfl) tk (ma_cons (me_var (pv 0)) ma_nil))))))
theorem sc_done_at : FnScope ["times", "hours", "i", "row", "rows"] ["times", "hours", "i"] (defScope (topS 19)) := ⟨rfl, rfl, rfl, by decide +kernel, rfl, by decide +kernel, by decide +kernel⟩
theorem ok_done_at (B : Bi K mg cA) (D_queue_cells : Df P w K mg base cA "queue_cells" 2 3 F_queue_cells) (D_queue_change : Df P w K mg base cA "queue_change" 2 9 F_queue_change) (D_queue_leavings : Df P w K mg base cA "queue_leavings" 2 1 F_queue_leavings) (D_queue_table : Df P w K mg base cA "queue_table" 2 10 F_queue_table) (D_queue_times : Df P w K mg base cA "queue_times" 1 9 F_queue_times) {f : Addr} {fd : FuncData} (Fu : L2.Fun K "done_at" "done_at" (topS 19) f fd) : FnOk P w K mg base (L2.CX P w) 11 f fd ["times", "hours", "i"] (SpD K cA 3 F_done_at) :=
  have S := sc_done_at
  fn_okN (cA := cA) (N := ["times", "hours", "i", "row", "rows"]) 3 2 Fu sc_done_at rfl rfl (fun cdv A outer s H E X hX hr tk hp => by
    subst hX
    exact (ms_cons (ms_set (i := 3) S.nd rfl (by first | exact Or.inl rfl | exact Or.inr rfl) (me_callD D_queue_times rfl (hr.mono (by decide)) (by rfl) tk (ma_cons (me_var (pv 0)) ma_nil)))
      (ms_cons (ms_set (i := 4) S.nd rfl (by first | exact Or.inl rfl | exact Or.inr rfl) (me_callD D_queue_table rfl (hr.mono (by decide)) (by rfl) tk (ma_cons (me_var (pv 1)) (ma_cons (me_callB c_len s_len (by rfl) B.z_len (by decide +kernel) (ma_cons (me_var (pv 3)) ma_nil)) ma_nil))))
      (ms_cons (ms_expr (me_callD D_queue_change rfl (hr.mono (by decide)) (by rfl) tk (ma_cons (me_var (pv 3)) (ma_cons (me_var (pv 2)) ma_nil))))
      (ms_cons (ms_expr (me_callD D_queue_cells rfl (hr.mono (by decide)) (by rfl) tk (ma_cons (me_callB c_len s_len (by rfl) B.z_len (by decide +kernel) (ma_cons (me_var (pv 4)) ma_nil)) (ma_cons (me_callB c_len s_len (by rfl) B.z_len (by decide +kernel) (ma_cons (me_ix ix_seq s_ix (me_var (pv 4)) me_int) ma_nil)) ma_nil))))
      (ms_one (ms_ret (me_ix ix_seq s_ix (me_ix ix_seq s_ix (me_callD D_queue_leavings rfl (hr.mono (by decide)) (by rfl) tk (ma_cons (me_var (pv 3)) (ma_cons (me_var (pv 4)) ma_nil))) (me_op2 op_sub s_sub (me_var (pv 2)) me_int)) (me_un un_neg s_neg me_int)))))))))
theorem sc__law_closed_right : FnScope ["times", "row", "turned", "by", "form", "ends", "far", "high", "i", "handed", "time", "z"] ["times", "row", "turned", "by", "form"] (defScope (topS 35)) := ⟨rfl, rfl, rfl, by decide +kernel, rfl, by decide +kernel, by decide +kernel⟩
theorem ok__law_closed_right (B : Bi K mg cA) (D__law_ends : Df P w K mg base cA "_law_ends" 2 1 F__law_ends) (D__law_heard : Df P w K mg base cA "_law_heard" 4 11 F__law_heard) (D__law_just : Df P w K mg base cA "_law_just" 2 1 F__law_just) (D_done_at : Df P w K mg base cA "done_at" 3 11 F_done_at) {f : Addr} {fd : FuncData} (Fu : L2.Fun K "_law_closed_right" "_law_closed_right" (topS 35) f fd) : FnOk P w K mg base (L2.CX P w) 12 f fd ["times", "row", "turned", "by", "form"] (SpD K cA 5 F__law_closed_right) :=
  have S := sc__law_closed_right
  fn_okN (cA := cA) (N := ["times", "row", "turned", "by", "form", "ends", "far", "high", "i", "handed", "time", "z"]) 5 7 Fu sc__law_closed_right rfl rfl (fun cdv A outer s H E X hX hr tk hp => by
    subst hX
    exact (ms_cons (ms_set (i := 5) S.nd rfl (by first | exact Or.inl rfl | exact Or.inr rfl) (me_callD D__law_ends rfl (hr.mono (by decide)) (by rfl) tk (ma_cons (me_var (pv 0)) (ma_cons (me_op2 o_mulA s_mulA (me_tup (ma_cons (me_var (pv 1)) ma_nil)) (me_callB c_len s_len (by rfl) B.z_len (by decide +kernel) (ma_cons (me_var (pv 0)) ma_nil))) ma_nil))))
      (ms_cons (ms_set (i := 6) S.nd rfl (by first | exact Or.inl rfl | exact Or.inr rfl) (me_callTy call_tuple_of s_tuple (by rfl) B.z_tuple (by decide +kernel) (ma_cons (me_lc (own := [("time", 10)]) rfl S.nd (mi_seq rfl (me_var (pv 0))) (by show BlkOk ["times", "row", "turned", "by", "form", "ends", "far", "high", "i", "handed", "time", "z"] (defScope (topS 35)) _ [("time", 10)]; exact ⟨rfl, by decide +kernel, by decide +kernel, by decide +kernel, by decide +kernel⟩) (fun _ _ _ _ _ => (mg_name (pg_name (i := 10) S.nd rfl (by first | exact Or.inl rfl | exact Or.inr rfl)))) (fun _ _ _ _ _ => pts_nil) (fun _ _ _ _ _ => (me_op2 o_mulA s_mulA (me_var (pv 3)) (me_var (pv 10)))) tt_nil (by decide) (by decide)) ma_nil)))
      (ms_cons (ms_set (i := 7) S.nd rfl (by first | exact Or.inl rfl | exact Or.inr rfl) (me_callTy call_tuple_of s_tuple (by rfl) B.z_tuple (by decide +kernel) (ma_cons (me_lc (own := [("z", 11)]) rfl S.nd (mi_seq rfl (me_var (pv 1))) (by show BlkOk ["times", "row", "turned", "by", "form", "ends", "far", "high", "i", "handed", "time", "z"] (defScope (topS 35)) _ [("z", 11)]; exact ⟨rfl, by decide +kernel, by decide +kernel, by decide +kernel, by decide +kernel⟩) (fun _ _ _ _ _ => (mg_name (pg_name (i := 11) S.nd rfl (by first | exact Or.inl rfl | exact Or.inr rfl)))) (fun _ _ _ _ _ => pts_nil) (fun _ _ _ _ _ => (me_op2 o_mulA s_mulA (me_var (pv 3)) (me_var (pv 11)))) tt_nil (by decide) (by decide)) ma_nil)))
      (ms_cons (ms_for hp rfl (mi_rng2 (by rfl) B.z_range (ma_cons me_int (ma_cons (me_op2 o_add s_add (me_callB c_len s_len (by rfl) B.z_len (by decide +kernel) (ma_cons (me_var (pv 0)) ma_nil)) me_int) ma_nil))) (mg_name (pg_name (i := 8) S.nd rfl (by first | exact Or.inl rfl | exact Or.inr rfl))) (ms_cons (ms_set (i := 9) S.nd rfl (by first | exact Or.inl rfl | exact Or.inr rfl) (me_var (pv 2)))
      (ms_cons (ms_if (mt_op op_gt s_gt (me_var (pv 4)) me_int (nomark _)) (ms_one (ms_set (i := 9) S.nd rfl (by first | exact Or.inl rfl | exact Or.inr rfl) (me_callTy call_list_of s_list (by rfl) B.z_list (by decide +kernel) (ma_cons (me_var (pv 2)) ma_nil)))) ms_nil)
      (ms_cons (ms_if (mt_not (mt_val (me_callD D__law_just rfl (hr.mono (by decide)) (by rfl) tk (ma_cons (me_callD D__law_heard rfl (hr.mono (by decide)) (by rfl) tk (ma_cons me_int (ma_cons (me_var (pv 0)) (ma_cons (me_var (pv 1)) (ma_cons (me_var (pv 8)) ma_nil))))) (ma_cons (me_tup (ma_cons me_str (ma_cons (me_ix ix_seq s_ix (me_var (pv 5)) (me_op2 op_sub s_sub (me_var (pv 8)) me_int)) ma_nil))) ma_nil))))) (ms_one (ms_ret me_bl)) ms_nil)
      (ms_cons (ms_if (mt_not (mt_val (me_callD D__law_just rfl (hr.mono (by decide)) (by rfl) tk (ma_cons (me_callD D__law_heard rfl (hr.mono (by decide)) (by rfl) tk (ma_cons me_int (ma_cons (me_var (pv 0)) (ma_cons (me_var (pv 9)) (ma_cons (me_var (pv 8)) ma_nil))))) (ma_cons (me_tup (ma_cons me_str (ma_cons (me_ix ix_seq s_ix (me_var (pv 5)) (me_op2 op_sub s_sub (me_var (pv 8)) me_int)) ma_nil))) ma_nil))))) (ms_one (ms_ret me_bl)) ms_nil)
      (ms_one (ms_if (mt_not (mt_val (me_callD D__law_just rfl (hr.mono (by decide)) (by rfl) tk (ma_cons (me_callD D__law_heard rfl (hr.mono (by decide)) (by rfl) tk (ma_cons me_int (ma_cons (me_var (pv 6)) (ma_cons (me_var (pv 7)) (ma_cons (me_var (pv 8)) ma_nil))))) (ma_cons (me_tup (ma_cons me_str (ma_cons (me_op2 o_mulA s_mulA (me_var (pv 3)) (me_ix ix_seq s_ix (me_var (pv 5)) (me_op2 op_sub s_sub (me_var (pv 8)) me_int))) ma_nil))) ma_nil))))) (ms_one (ms_ret me_bl)) ms_nil)))))))
      (ms_cons (ms_set (i := 8) S.nd rfl (by first | exact Or.inl rfl | exact Or.inr rfl) (me_callB c_len s_len (by rfl) B.z_len (by decide +kernel) (ma_cons (me_var (pv 0)) ma_nil)))
      (ms_one (ms_ret (me_and (me_callD D__law_just rfl (hr.mono (by decide)) (by rfl) tk (ma_cons (me_callD D_done_at rfl (hr.mono (by decide)) (by rfl) tk (ma_cons (me_var (pv 0)) (ma_cons (me_op2 o_mulA s_mulA (me_tup (ma_cons (me_var (pv 2)) ma_nil)) (me_var (pv 8))) (ma_cons (me_var (pv 8)) ma_nil)))) (ma_cons (me_ix ix_seq s_ix (me_var (pv 5)) (me_op2 op_sub s_sub (me_var (pv 8)) me_int)) ma_nil))) (me_one (me_callD D__law_just rfl (hr.mono (by decide)) (by rfl) tk (ma_cons (me_callD D_done_at rfl (hr.mono (by decide)) (by rfl) tk (ma_cons (me_var (pv 6)) (ma_cons (me_op2 o_mulA s_mulA (me_lst (ma_cons (me_var (pv 7)) ma_nil)) (me_var (pv 8))) (ma_cons (me_var (pv 8)) ma_nil)))) (ma_cons (me_op2 o_mulA s_mulA (me_var (pv 3)) (me_ix ix_seq s_ix (me_var (pv 5)) (me_op2 op_sub s_sub (me_var (pv 8)) me_int))) ma_nil)))))))))))))
theorem sc__law_joined_right : FnScope ["times", "row", "other", "both", "due", "pair", "many", "ends", "last"] ["times", "row", "other"] (defScope (topS 38)) := ⟨rfl, rfl, rfl, by decide +kernel, rfl, by decide +kernel, by decide +kernel⟩
theorem ok__law_joined_right (B : Bi K mg cA) (D__law_ends : Df P w K mg base cA "_law_ends" 2 1 F__law_ends) (D__law_heard : Df P w K mg base cA "_law_heard" 4 11 F__law_heard) (D__law_just : Df P w K mg base cA "_law_just" 2 1 F__law_just) (D_done_at : Df P w K mg base cA "done_at" 3 11 F_done_at) {f : Addr} {fd : FuncData} (Fu : L2.Fun K "_law_joined_right" "_law_joined_right" (topS 38) f fd) : FnOk P w K mg base (L2.CX P w) 12 f fd ["times", "row", "other"] (SpD K cA 3 F__law_joined_right) :=
  have S := sc__law_joined_right
  fn_okN (cA := cA) (N := ["times", "row", "other", "both", "due", "pair", "many", "ends", "last"]) 3 6 Fu sc__law_joined_right rfl rfl (fun cdv A outer s H E X hX hr tk hp => by
    subst hX
    exact (ms_cons (ms_set (i := 3) S.nd rfl (by first | exact Or.inl rfl | exact Or.inr rfl) (me_op2 o_add s_add (me_var (pv 1)) (me_var (pv 2))))
      (ms_cons (ms_set (i := 4) S.nd rfl (by first | exact Or.inl rfl | exact Or.inr rfl) (me_tup (ma_cons (me_callB (c_sumA rfl) s_sumA (by rfl) B.z_sum (by decide +kernel) (ma_cons (me_var (pv 3)) ma_nil)) (ma_cons (me_callB (c_maxA rfl) s_maxA (by rfl) B.z_max (by decide +kernel) (ma_cons (me_var (pv 3)) ma_nil)) ma_nil))))
      (ms_cons (ms_for hp rfl (mi_seq rfl (me_tup (ma_cons (me_tup (ma_cons (me_var (pv 1)) (ma_cons (me_var (pv 2)) ma_nil))) (ma_cons (me_tup (ma_cons (me_var (pv 2)) (ma_cons (me_var (pv 1)) ma_nil))) (ma_cons (me_tup (ma_cons (me_callTy call_list_of s_list (by rfl) B.z_list (by decide +kernel) (ma_cons (me_var (pv 1)) ma_nil)) (ma_cons (me_callTy call_list_of s_list (by rfl) B.z_list (by decide +kernel) (ma_cons (me_var (pv 2)) ma_nil)) ma_nil))) ma_nil))))) (mg_name (pg_name (i := 5) S.nd rfl (by first | exact Or.inl rfl | exact Or.inr rfl))) (ms_one (ms_if (mt_not (mt_val (me_callD D__law_just rfl (hr.mono (by decide)) (by rfl) tk (ma_cons (me_callD D__law_heard rfl (hr.mono (by decide)) (by rfl) tk (ma_cons me_int (ma_cons (me_ix ix_seq s_ix (me_var (pv 5)) me_int) (ma_cons (me_ix ix_seq s_ix (me_var (pv 5)) me_int) (ma_cons me_int ma_nil))))) (ma_cons (me_tup (ma_cons me_str (ma_cons (me_var (pv 4)) ma_nil))) ma_nil))))) (ms_one (ms_ret me_bl)) ms_nil)))
      (ms_cons (ms_if (PW.pt (mw_or (mt_not (mt_val (me_callD D__law_just rfl (hr.mono (by decide)) (by rfl) tk (ma_cons (me_callD D__law_heard rfl (hr.mono (by decide)) (by rfl) tk (ma_cons me_int (ma_cons (me_var (pv 3)) (ma_cons me_int (ma_cons me_int ma_nil))))) (ma_cons (me_tup (ma_cons me_str (ma_cons (me_var (pv 4)) ma_nil))) ma_nil))))) (mw_or1 (mt_not (mt_val (me_callD D__law_just rfl (hr.mono (by decide)) (by rfl) tk (ma_cons (me_callD D__law_heard rfl (hr.mono (by decide)) (by rfl) tk (ma_cons me_int (ma_cons (me_var (pv 1)) (ma_cons me_int (ma_cons me_int ma_nil))))) (ma_cons (me_tup (ma_cons me_str (ma_cons (me_tup (ma_cons (me_callB (c_sumA rfl) s_sumA (by rfl) B.z_sum (by decide +kernel) (ma_cons (me_var (pv 1)) ma_nil)) (ma_cons (me_callB (c_maxA rfl) s_maxA (by rfl) B.z_max (by decide +kernel) (ma_cons (me_var (pv 1)) ma_nil)) ma_nil))) ma_nil))) ma_nil)))))))) (ms_one (ms_ret me_bl)) ms_nil)
      (ms_cons (ms_set (i := 6) S.nd rfl (by first | exact Or.inl rfl | exact Or.inr rfl) (me_callB c_len s_len (by rfl) B.z_len (by decide +kernel) (ma_cons (me_var (pv 0)) ma_nil)))
      (ms_cons (ms_set (i := 7) S.nd rfl (by first | exact Or.inl rfl | exact Or.inr rfl) (me_callD D__law_ends rfl (hr.mono (by decide)) (by rfl) tk (ma_cons (me_var (pv 0)) (ma_cons (me_op2 o_mulA s_mulA (me_tup (ma_cons (me_var (pv 1)) ma_nil)) (me_var (pv 6))) ma_nil))))
      (ms_cons (ms_set (i := 8) S.nd rfl (by first | exact Or.inl rfl | exact Or.inr rfl) (me_callD D__law_ends rfl (hr.mono (by decide)) (by rfl) tk (ma_cons (me_var (pv 0)) (ma_cons (me_op2 o_mulA s_mulA (me_tup (ma_cons (me_var (pv 3)) ma_nil)) (me_var (pv 6))) ma_nil))))
      (ms_one (ms_ret (me_and (me_callD D__law_just rfl (hr.mono (by decide)) (by rfl) tk (ma_cons (me_callD D_done_at rfl (hr.mono (by decide)) (by rfl) tk (ma_cons (me_var (pv 7)) (ma_cons (me_op2 o_mulA s_mulA (me_tup (ma_cons (me_var (pv 2)) ma_nil)) (me_var (pv 6))) (ma_cons (me_var (pv 6)) ma_nil)))) (ma_cons (me_ix ix_seq s_ix (me_var (pv 8)) (me_op2 op_sub s_sub (me_var (pv 6)) me_int)) ma_nil))) (me_one (me_callD D__law_just rfl (hr.mono (by decide)) (by rfl) tk (ma_cons (me_callD D__law_heard rfl (hr.mono (by decide)) (by rfl) tk (ma_cons me_int (ma_cons (me_var (pv 0)) (ma_cons (me_var (pv 3)) (ma_cons (me_var (pv 6)) ma_nil))))) (ma_cons (me_tup (ma_cons me_str (ma_cons (me_ix ix_seq s_ix (me_var (pv 8)) (me_op2 op_sub s_sub (me_var (pv 6)) me_int)) ma_nil))) ma_nil)))))))))))))))
theorem sc__law_pass_right : FnScope ["row", "great", "ends", "h", "due", "heard", "n", "end"] ["row", "great"] (defScope (topS 37)) := ⟨rfl, rfl, rfl, by decide +kernel, rfl, by decide +kernel, by decide +kernel⟩
theorem ok__law_pass_right (B : Bi K mg cA) (D__law_ends : Df P w K mg base cA "_law_ends" 2 1 F__law_ends) (D__law_heard : Df P w K mg base cA "_law_heard" 4 11 F__law_heard) (D__law_just : Df P w K mg base cA "_law_just" 2 1 F__law_just) {f : Addr} {fd : FuncData} (Fu : L2.Fun K "_law_pass_right" "_law_pass_right" (topS 37) f fd) : FnOk P w K mg base (L2.CX P w) 12 f fd ["row", "great"] (SpD K cA 2 F__law_pass_right) :=
  have S := sc__law_pass_right
  fn_okN (cA := cA) (N := ["row", "great", "ends", "h", "due", "heard", "n", "end"]) 2 6 Fu sc__law_pass_right rfl rfl (fun cdv A outer s H E X hX hr tk hp => by
    subst hX
    exact (ms_cons (ms_set (i := 2) S.nd rfl (by first | exact Or.inl rfl | exact Or.inr rfl) (me_callD D__law_ends rfl (hr.mono (by decide)) (by rfl) tk (ma_cons (me_op2 o_mulA s_mulA (me_tup (ma_cons me_int ma_nil)) me_int) (ma_cons (me_op2 o_mulA s_mulA (me_tup (ma_cons (me_var (pv 0)) ma_nil)) me_int) ma_nil))))
      (ms_cons (ms_for hp rfl (mi_seq rfl (me_tup (ma_cons (me_op2 op_sub s_sub (me_ix ix_seq s_ix (me_var (pv 2)) me_int) me_int) (ma_cons (me_ix ix_seq s_ix (me_var (pv 2)) me_int) (ma_cons (me_op2 op_sub s_sub (me_ix ix_seq s_ix (me_var (pv 2)) me_int) me_int) (ma_cons (me_ix ix_seq s_ix (me_var (pv 2)) me_int) (ma_cons (me_ix ix_seq s_ix (me_var (pv 2)) me_int) (ma_cons (me_un un_neg s_neg (me_var (pv 1))) (ma_cons me_int ma_nil))))))))) (mg_name (pg_name (i := 3) S.nd rfl (by first | exact Or.inl rfl | exact Or.inr rfl))) (ms_cons (ms_set (i := 4) S.nd rfl (by first | exact Or.inl rfl | exact Or.inr rfl) (me_op2 o_add s_add me_int (me_callB c_len s_len (by rfl) B.z_len (by decide +kernel) (ma_cons (me_lc (own := [("end", 7)]) rfl S.nd (mi_seq rfl (me_var (pv 2))) (by show BlkOk ["row", "great", "ends", "h", "due", "heard", "n", "end"] (defScope (topS 37)) _ [("end", 7)]; exact ⟨rfl, by decide +kernel, by decide +kernel, by decide +kernel, by decide +kernel⟩) (fun _ _ _ _ _ => (mg_name (pg_name (i := 7) S.nd rfl (by first | exact Or.inl rfl | exact Or.inr rfl)))) (fun _ _ _ _ _ => (pts_one (mt_op op_le s_le (me_var (pv 7)) (me_var (pv 3)) (nomark _)))) (fun _ _ _ _ _ => (me_var (pv 7))) tt_one (by decide) (by decide)) ma_nil))))
      (ms_one (ms_if (mt_not (mt_val (me_callD D__law_just rfl (hr.mono (by decide)) (by rfl) tk (ma_cons (me_callD D__law_heard rfl (hr.mono (by decide)) (by rfl) tk (ma_cons me_int (ma_cons (me_var (pv 0)) (ma_cons (me_var (pv 3)) (ma_cons me_int ma_nil))))) (ma_cons (me_tup (ma_cons me_str (ma_cons (me_var (pv 4)) ma_nil))) ma_nil))))) (ms_one (ms_ret me_bl)) ms_nil))))
      (ms_cons (ms_for hp rfl (mi_seq rfl (me_tup (ma_cons (me_var (pv 1)) (ma_cons (me_op2 o_add s_add (me_var (pv 1)) me_int) (ma_cons (me_op2 o_add s_add (me_callB (c_sumA rfl) s_sumA (by rfl) B.z_sum (by decide +kernel) (ma_cons (me_var (pv 0)) ma_nil)) (me_op2 o_mulA s_mulA (me_var (pv 1)) (me_callB (c_maxA rfl) s_maxA (by rfl) B.z_max (by decide +kernel) (ma_cons (me_var (pv 0)) ma_nil)))) (ma_cons (me_op2 op_sub s_sub (me_op2 o_add s_add (me_callB (c_sumA rfl) s_sumA (by rfl) B.z_sum (by decide +kernel) (ma_cons (me_var (pv 0)) ma_nil)) (me_op2 o_mulA s_mulA (me_var (pv 1)) (me_callB (c_maxA rfl) s_maxA (by rfl) B.z_max (by decide +kernel) (ma_cons (me_var (pv 0)) ma_nil)))) me_int) ma_nil)))))) (mg_name (pg_name (i := 3) S.nd rfl (by first | exact Or.inl rfl | exact Or.inr rfl))) (ms_cons (ms_set (i := 5) S.nd rfl (by first | exact Or.inl rfl | exact Or.inr rfl) (me_callD D__law_heard rfl (hr.mono (by decide)) (by rfl) tk (ma_cons me_int (ma_cons (me_var (pv 0)) (ma_cons (me_var (pv 3)) (ma_cons me_int ma_nil))))))
      (ms_cons (ms_set (i := 6) S.nd rfl (by first | exact Or.inl rfl | exact Or.inr rfl) (me_ix ix_seq s_ix (me_var (pv 5)) (me_op2 op_sub s_sub (me_callB c_len s_len (by rfl) B.z_len (by decide +kernel) (ma_cons (me_var (pv 5)) ma_nil)) me_int)))
      (ms_cons (ms_if (PW.pt (mw_or (mt_op (op_neD (hu64 hr)) s_ne (me_ix ix_seq s_ix (me_var (pv 5)) me_int) me_str (nomark _)) (mw_or (mt_not (mt_val (me_isi1 (t := .int) (pe_callB call_isi (by rfl) B.z_isinstance (by decide +kernel) (pa_cons (me_var (pv 6)) (pa_cons (pe_bltn (by rfl) B.z_int (by decide +kernel) rfl) pa_nil)))))) (mw_or (mt_val (me_isi1 (t := .bool) (pe_callB call_isi (by rfl) B.z_isinstance (by decide +kernel) (pa_cons (me_var (pv 6)) (pa_cons (pe_bltn (by rfl) B.z_bool (by decide +kernel) rfl) pa_nil))))) (mw_or1 (mt_op op_lt s_lt (me_var (pv 6)) me_int (nomark _))))))) (ms_one (ms_ret me_bl)) ms_nil)
      (ms_one (ms_if (PW.pt (mw_or (mt_op op_le s_le (me_op2 o_add s_add (me_callB (c_sumA rfl) s_sumA (by rfl) B.z_sum (by decide +kernel) (ma_cons (me_var (pv 0)) ma_nil)) (me_op2 o_mulA s_mulA (me_op2 op_sub s_sub (me_var (pv 6)) me_int) (me_callB (c_maxA rfl) s_maxA (by rfl) B.z_max (by decide +kernel) (ma_cons (me_var (pv 0)) ma_nil)))) (me_var (pv 3)) (nomark _)) (mw_or1 (PW.pt (mw_and (mt_op op_gt s_gt (me_var (pv 6)) me_int (nomark _)) (mw_and1 (mt_op op_gt s_gt (me_op2 o_add s_add (me_callB (c_sumA rfl) s_sumA (by rfl) B.z_sum (by decide +kernel) (ma_cons (me_var (pv 0)) ma_nil)) (me_op2 o_mulA s_mulA (me_op2 op_sub s_sub (me_var (pv 6)) me_int) (me_callB (c_maxA rfl) s_maxA (by rfl) B.z_max (by decide +kernel) (ma_cons (me_var (pv 0)) ma_nil)))) (me_var (pv 3)) (nomark _)))))))) (ms_one (ms_ret me_bl)) ms_nil))))))
      (ms_one (ms_ret me_bl))))))
theorem sc__law_take : FnScope ["tape", "many"] ["tape", "many"] (defScope (topS 29)) := ⟨rfl, rfl, rfl, by decide +kernel, rfl, by decide +kernel, by decide +kernel⟩
theorem ok__law_take (B : Bi K mg cA)  {f : Addr} {fd : FuncData} (Fu : L2.Fun K "_law_take" "_law_take" (topS 29) f fd) : FnOk P w K mg base (L2.CX P w) 1 f fd ["tape", "many"] (SpD K cA 2 F__law_take) :=
  have S := sc__law_take
  fn_okN (cA := cA) (N := ["tape", "many"]) 2 0 Fu sc__law_take rfl rfl (fun cdv A outer s H E X hX hr tk hp => by
    subst hX
    exact (ms_cons (ms_if (mt_op (op_eqD (hu64 hr)) s_eq (me_callB c_len s_len (by rfl) B.z_len (by decide +kernel) (ma_cons (me_var (pv 0)) ma_nil)) me_int (nomark _)) (ms_one (ms_ret me_int)) ms_nil)
      (ms_one (ms_ret (me_op2 op_mod s_mod (me_callTy call_int1 s_int (by rfl) B.z_int (by decide +kernel) (ma_cons (me_pop (pv 0)) ma_nil)) (me_var (pv 1)))))))
theorem sc__law_refused : FnScope ["tape", "times", "row", "wrong", "bad", "at", "which", "hours", "spot", "i", "less", "none"] ["tape", "times", "row"] (defScope (topS 39)) := ⟨rfl, rfl, rfl, by decide +kernel, rfl, by decide +kernel, by decide +kernel⟩
theorem ok__law_refused (B : Bi K mg cA) (D__law_heard : Df P w K mg base cA "_law_heard" 4 11 F__law_heard) (D__law_just : Df P w K mg base cA "_law_just" 2 1 F__law_just) (D__law_take : Df P w K mg base cA "_law_take" 2 1 F__law_take) {f : Addr} {fd : FuncData} (Fu : L2.Fun K "_law_refused" "_law_refused" (topS 39) f fd) : FnOk P w K mg base (L2.CX P w) 12 f fd ["tape", "times", "row"] (SpD K cA 3 F__law_refused) :=
  have S := sc__law_refused
  fn_okN (cA := cA) (N := ["tape", "times", "row", "wrong", "bad", "at", "which", "hours", "spot", "i", "less", "none"]) 3 9 Fu sc__law_refused rfl rfl (fun cdv A outer s H E X hX hr tk hp => by
    subst hX
    exact (ms_cons (ms_set (i := 3) S.nd rfl (by first | exact Or.inl rfl | exact Or.inr rfl) (me_ix ix_seq s_ix (me_tup (ma_cons me_int (ma_cons me_non (ma_cons me_bl (ma_cons (me_un un_neg s_neg me_int) (ma_cons me_str (ma_cons (me_tup (ma_cons me_int ma_nil)) ma_nil))))))) (me_callBD D__law_take rfl (hr.mono (by decide)) (by rfl) tk (ma_cons (me_var (pv 0)) (ma_cons me_int ma_nil)))))
      (ms_cons (ms_asgT (me_ix ix_seq s_ix (me_tup (ma_cons (me_tup (ma_cons me_non (ma_cons (me_un un_neg s_neg me_int) ma_nil))) (ma_cons (me_tup (ma_cons (me_tup ma_nil) (ma_cons (me_un un_neg s_neg me_int) ma_nil))) (ma_cons (me_tup (ma_cons (me_op2 o_add s_add (me_var (pv 2)) (me_tup (ma_cons (me_var (pv 3)) ma_nil))) (ma_cons (me_callB c_len s_len (by rfl) B.z_len (by decide +kernel) (ma_cons (me_var (pv 2)) ma_nil)) ma_nil))) (ma_cons (me_tup (ma_cons (me_op2 o_add s_add (me_tup (ma_cons (me_var (pv 3)) ma_nil)) (me_var (pv 2))) (ma_cons me_int ma_nil))) (ma_cons (me_tup (ma_cons me_str (ma_cons (me_un un_neg s_neg me_int) ma_nil))) ma_nil)))))) (me_callBD D__law_take rfl (hr.mono (by decide)) (by rfl) tk (ma_cons (me_var (pv 0)) (ma_cons me_int ma_nil)))) (mg_tup (pg_tup rfl (pgs_cons (pg_name (i := 4) S.nd rfl (by first | exact Or.inl rfl | exact Or.inr rfl)) (pgs_cons (pg_name (i := 5) S.nd rfl (by first | exact Or.inl rfl | exact Or.inr rfl)) pgs_nil))) rfl))
      (ms_cons (ms_for hp rfl (mi_rng2 (by rfl) B.z_range (ma_cons me_int (ma_cons me_int ma_nil))) (mg_name (pg_name (i := 6) S.nd rfl (by first | exact Or.inl rfl | exact Or.inr rfl))) (ms_one (ms_if (mt_not (mt_val (me_callD D__law_just rfl (hr.mono (by decide)) (by rfl) tk (ma_cons (me_callD D__law_heard rfl (hr.mono (by decide)) (by rfl) tk (ma_cons (me_var (pv 6)) (ma_cons (me_var (pv 4)) (ma_cons me_non (ma_cons me_non ma_nil))))) (ma_cons (me_tup (ma_cons me_str (ma_cons me_bl (ma_cons me_bl (ma_cons (me_var (pv 5)) ma_nil))))) ma_nil))))) (ms_one (ms_ret me_bl)) ms_nil)))
      (ms_cons (ms_if (mt_not (mt_val (me_callD D__law_just rfl (hr.mono (by decide)) (by rfl) tk (ma_cons (me_callD D__law_heard rfl (hr.mono (by decide)) (by rfl) tk (ma_cons me_int (ma_cons (me_var (pv 1)) (ma_cons (me_var (pv 4)) (ma_cons me_non ma_nil))))) (ma_cons (me_tup (ma_cons me_str (ma_cons me_bl (ma_cons me_bl (ma_cons (me_var (pv 5)) ma_nil))))) ma_nil))))) (ms_one (ms_ret me_bl)) ms_nil)
      (ms_cons (ms_if (mt_not (mt_val (me_callD D__law_just rfl (hr.mono (by decide)) (by rfl) tk (ma_cons (me_callD D__law_heard rfl (hr.mono (by decide)) (by rfl) tk (ma_cons me_int (ma_cons (me_var (pv 2)) (ma_cons (me_var (pv 4)) (ma_cons me_int ma_nil))))) (ma_cons (me_tup (ma_cons me_str (ma_cons me_bl (ma_cons me_bl (ma_cons (me_tup (ma_cons (me_var (pv 5)) (ma_cons (me_un un_neg s_neg me_int) ma_nil))) ma_nil))))) ma_nil))))) (ms_one (ms_ret me_bl)) ms_nil)
      (ms_cons (ms_asgT (me_ix ix_seq s_ix (me_tup (ma_cons (me_tup (ma_cons me_non (ma_cons (me_un un_neg s_neg me_int) ma_nil))) (ma_cons (me_tup (ma_cons (me_tup ma_nil) (ma_cons (me_un un_neg s_neg me_int) ma_nil))) (ma_cons (me_tup (ma_cons (me_tup (ma_cons me_int (ma_cons me_int ma_nil))) (ma_cons me_int ma_nil))) (ma_cons (me_tup (ma_cons (me_tup (ma_cons me_int (ma_cons me_non ma_nil))) (ma_cons me_int ma_nil))) (ma_cons (me_tup (ma_cons (me_tup (ma_cons me_bl (ma_cons me_int ma_nil))) (ma_cons me_int ma_nil))) ma_nil)))))) (me_callBD D__law_take rfl (hr.mono (by decide)) (by rfl) tk (ma_cons (me_var (pv 0)) (ma_cons me_int ma_nil)))) (mg_tup (pg_tup rfl (pgs_cons (pg_name (i := 7) S.nd rfl (by first | exact Or.inl rfl | exact Or.inr rfl)) (pgs_cons (pg_name (i := 8) S.nd rfl (by first | exact Or.inl rfl | exact Or.inr rfl)) pgs_nil))) rfl))
      (ms_cons (ms_if (mt_not (mt_val (me_callD D__law_just rfl (hr.mono (by decide)) (by rfl) tk (ma_cons (me_callD D__law_heard rfl (hr.mono (by decide)) (by rfl) tk (ma_cons me_int (ma_cons (me_var (pv 7)) (ma_cons (me_var (pv 4)) (ma_cons me_non ma_nil))))) (ma_cons (me_tup (ma_cons me_str (ma_cons me_bl (ma_cons me_bl (ma_cons (me_var (pv 8)) ma_nil))))) ma_nil))))) (ms_one (ms_ret me_bl)) ms_nil)
      (ms_cons (ms_for hp rfl (mi_seq rfl (me_tup (ma_cons (me_var (pv 3)) (ma_cons (me_op2 o_add s_add (me_callB c_len s_len (by rfl) B.z_len (by decide +kernel) (ma_cons (me_var (pv 1)) ma_nil)) me_int) ma_nil)))) (mg_name (pg_name (i := 9) S.nd rfl (by first | exact Or.inl rfl | exact Or.inr rfl))) (ms_one (ms_if (mt_not (mt_val (me_callD D__law_just rfl (hr.mono (by decide)) (by rfl) tk (ma_cons (me_callD D__law_heard rfl (hr.mono (by decide)) (by rfl) tk (ma_cons me_int (ma_cons (me_var (pv 1)) (ma_cons (me_var (pv 2)) (ma_cons (me_var (pv 9)) ma_nil))))) (ma_cons (me_tup (ma_cons me_str (ma_cons me_bl (ma_cons me_bl (ma_cons (me_var (pv 9)) ma_nil))))) ma_nil))))) (ms_one (ms_ret me_bl)) ms_nil)))
      (ms_cons (ms_set (i := 10) S.nd rfl (by first | exact Or.inl rfl | exact Or.inr rfl) (me_ix ix_seq s_ix (me_tup (ma_cons (me_un un_neg s_neg me_int) (ma_cons me_non (ma_cons me_bl (ma_cons me_str (ma_cons (me_tup (ma_cons me_int ma_nil)) ma_nil)))))) (me_callBD D__law_take rfl (hr.mono (by decide)) (by rfl) tk (ma_cons (me_var (pv 0)) (ma_cons me_int ma_nil)))))
      (ms_cons (ms_if (mt_not (mt_val (me_callD D__law_just rfl (hr.mono (by decide)) (by rfl) tk (ma_cons (me_callD D__law_heard rfl (hr.mono (by decide)) (by rfl) tk (ma_cons me_int (ma_cons (me_var (pv 2)) (ma_cons (me_var (pv 10)) (ma_cons (me_var (pv 10)) ma_nil))))) (ma_cons (me_tup (ma_cons me_str (ma_cons me_bl (ma_cons me_bl (ma_cons (me_tup (ma_cons (me_var (pv 10)) (ma_cons me_int ma_nil))) ma_nil))))) ma_nil))))) (ms_one (ms_ret me_bl)) ms_nil)
      (ms_cons (ms_if (mt_not (mt_val (me_callD D__law_just rfl (hr.mono (by decide)) (by rfl) tk (ma_cons (me_callD D__law_heard rfl (hr.mono (by decide)) (by rfl) tk (ma_cons me_int (ma_cons (me_var (pv 2)) (ma_cons me_int (ma_cons (me_var (pv 10)) ma_nil))))) (ma_cons (me_tup (ma_cons me_str (ma_cons me_bl (ma_cons me_bl (ma_cons (me_tup (ma_cons (me_var (pv 10)) (ma_cons me_int ma_nil))) ma_nil))))) ma_nil))))) (ms_one (ms_ret me_bl)) ms_nil)
      (ms_cons (ms_if (mt_not (mt_val (me_callD D__law_just rfl (hr.mono (by decide)) (by rfl) tk (ma_cons (me_callD D__law_heard rfl (hr.mono (by decide)) (by rfl) tk (ma_cons me_int (ma_cons (me_var (pv 2)) (ma_cons (me_var (pv 3)) (ma_cons me_int ma_nil))))) (ma_cons (me_tup (ma_cons me_str (ma_cons me_bl (ma_cons me_bl (ma_cons (me_tup (ma_cons (me_var (pv 3)) (ma_cons me_int ma_nil))) ma_nil))))) ma_nil))))) (ms_one (ms_ret me_bl)) ms_nil)
      (ms_cons (ms_set (i := 11) S.nd rfl (by first | exact Or.inl rfl | exact Or.inr rfl) (me_ix ix_seq s_ix (me_tup (ma_cons me_non (ma_cons me_str (ma_cons me_bl (ma_cons (me_tup (ma_cons me_int (ma_cons me_int ma_nil))) ma_nil))))) (me_callBD D__law_take rfl (hr.mono (by decide)) (by rfl) tk (ma_cons (me_var (pv 0)) (ma_cons me_int ma_nil)))))
      (ms_one (ms_ret (me_callD D__law_just rfl (hr.mono (by decide)) (by rfl) tk (ma_cons (me_callD D__law_heard rfl (hr.mono (by decide)) (by rfl) tk (ma_cons me_int (ma_cons (me_var (pv 2)) (ma_cons (me_var (pv 11)) (ma_cons me_int ma_nil))))) (ma_cons (me_tup (ma_cons me_str (ma_cons me_bl (ma_cons me_bl (ma_cons (me_tup (ma_cons (me_var (pv 11)) (ma_cons me_int ma_nil))) ma_nil))))) ma_nil)))))))))))))))))))
theorem sc__law_stream_right : FnScope ["row", "d", "great", "asks", "ends", "i", "due"] ["row", "d", "great"] (defScope (topS 36)) := ⟨rfl, rfl, rfl, by decide +kernel, rfl, by decide +kernel, by decide +kernel⟩
theorem ok__law_stream_right (B : Bi K mg cA) (D__law_ends : Df P w K mg base cA "_law_ends" 2 1 F__law_ends) (D__law_heard : Df P w K mg base cA "_law_heard" 4 11 F__law_heard) (D__law_just : Df P w K mg base cA "_law_just" 2 1 F__law_just) {f : Addr} {fd : FuncData} (Fu : L2.Fun K "_law_stream_right" "_law_stream_right" (topS 36) f fd) : FnOk P w K mg base (L2.CX P w) 12 f fd ["row", "d", "great"] (SpD K cA 3 F__law_stream_right) :=
  have S := sc__law_stream_right
  fn_okN (cA := cA) (N := ["row", "d", "great", "asks", "ends", "i", "due"]) 3 4 Fu sc__law_stream_right rfl rfl (fun cdv A outer s H E X hX hr tk hp => by
    subst hX
    exact (ms_cons (ms_set (i := 3) S.nd rfl (by first | exact Or.inl rfl | exact Or.inr rfl) (me_callTy call_tuple_of s_tuple (by rfl) B.z_tuple (by decide +kernel) (ma_cons (me_lc (own := [("i", 5)]) rfl S.nd (mi_rng1 (by rfl) B.z_range (ma_cons me_int ma_nil)) (by show BlkOk ["row", "d", "great", "asks", "ends", "i", "due"] (defScope (topS 36)) _ [("i", 5)]; exact ⟨rfl, by decide +kernel, by decide +kernel, by decide +kernel, by decide +kernel⟩) (fun _ _ _ _ _ => (mg_name (pg_name (i := 5) S.nd rfl (by first | exact Or.inl rfl | exact Or.inr rfl)))) (fun _ _ _ _ _ => pts_nil) (fun _ _ _ _ _ => (me_op2 o_mulA s_mulA (me_var (pv 1)) (me_var (pv 5)))) tt_nil (by decide) (by decide)) ma_nil)))
      (ms_cons (ms_set (i := 4) S.nd rfl (by first | exact Or.inl rfl | exact Or.inr rfl) (me_callD D__law_ends rfl (hr.mono (by decide)) (by rfl) tk (ma_cons (me_var (pv 3)) (ma_cons (me_op2 o_mulA s_mulA (me_tup (ma_cons (me_var (pv 0)) ma_nil)) me_int) ma_nil))))
      (ms_cons (ms_for hp rfl (mi_seq rfl (me_tup (ma_cons me_int (ma_cons me_int (ma_cons me_int (ma_cons me_int ma_nil)))))) (mg_name (pg_name (i := 5) S.nd rfl (by first | exact Or.inl rfl | exact Or.inr rfl))) (ms_one (ms_if (mt_not (mt_val (me_callD D__law_just rfl (hr.mono (by decide)) (by rfl) tk (ma_cons (me_callD D__law_heard rfl (hr.mono (by decide)) (by rfl) tk (ma_cons me_int (ma_cons (me_var (pv 0)) (ma_cons (me_var (pv 1)) (ma_cons (me_var (pv 5)) ma_nil))))) (ma_cons (me_tup (ma_cons me_str (ma_cons (me_ix ix_seq s_ix (me_var (pv 4)) (me_var (pv 5))) ma_nil))) ma_nil))))) (ms_one (ms_ret me_bl)) ms_nil)))
      (ms_cons (ms_set (i := 6) S.nd rfl (by first | exact Or.inl rfl | exact Or.inr rfl) (me_op2 o_add s_add (me_callB (c_sumA rfl) s_sumA (by rfl) B.z_sum (by decide +kernel) (ma_cons (me_var (pv 0)) ma_nil)) (me_op2 o_mulA s_mulA (me_var (pv 2)) (me_callB (call_max2 rfl) s_max (by rfl) B.z_max (by decide +kernel) (ma_cons (me_var (pv 1)) (ma_cons (me_callB (c_maxA rfl) s_maxA (by rfl) B.z_max (by decide +kernel) (ma_cons (me_var (pv 0)) ma_nil)) ma_nil))))))
      (ms_cons (ms_if (mt_not (mt_val (me_callD D__law_just rfl (hr.mono (by decide)) (by rfl) tk (ma_cons (me_callD D__law_heard rfl (hr.mono (by decide)) (by rfl) tk (ma_cons me_int (ma_cons (me_var (pv 0)) (ma_cons (me_var (pv 1)) (ma_cons (me_var (pv 2)) ma_nil))))) (ma_cons (me_tup (ma_cons me_str (ma_cons (me_var (pv 6)) ma_nil))) ma_nil))))) (ms_one (ms_ret me_bl)) ms_nil)
      (ms_cons (ms_set (i := 6) S.nd rfl (by first | exact Or.inl rfl | exact Or.inr rfl) (me_op2 o_add s_add (me_callB (c_sumA rfl) s_sumA (by rfl) B.z_sum (by decide +kernel) (ma_cons (me_var (pv 0)) ma_nil)) (me_op2 o_mulA s_mulA me_int (me_callB (call_max2 rfl) s_max (by rfl) B.z_max (by decide +kernel) (ma_cons (me_var (pv 2)) (ma_cons (me_callB (c_maxA rfl) s_maxA (by rfl) B.z_max (by decide +kernel) (ma_cons (me_var (pv 0)) ma_nil)) ma_nil))))))
      (ms_cons (ms_if (mt_not (mt_val (me_callD D__law_just rfl (hr.mono (by decide)) (by rfl) tk (ma_cons (me_callD D__law_heard rfl (hr.mono (by decide)) (by rfl) tk (ma_cons me_int (ma_cons (me_var (pv 0)) (ma_cons (me_var (pv 2)) (ma_cons me_int ma_nil))))) (ma_cons (me_tup (ma_cons me_str (ma_cons (me_var (pv 6)) ma_nil))) ma_nil))))) (ms_one (ms_ret me_bl)) ms_nil)
      (ms_cons (ms_if (mt_op (op_eqD (hu64 hr)) s_eq (me_var (pv 1)) me_int (nomark _)) (ms_one (ms_ret me_bl)) ms_nil)
      (ms_cons (ms_if (mt_op op_lt s_lt (me_var (pv 1)) (me_callB (c_maxA rfl) s_maxA (by rfl) B.z_max (by decide +kernel) (ma_cons (me_var (pv 0)) ma_nil)) (nomark _)) (ms_one (ms_ret (me_and (me_cmp op_gt s_gt (me_op2 op_sub s_sub (me_ix ix_seq s_ix (me_var (pv 4)) me_int) (me_ix ix_seq s_ix (me_var (pv 3)) me_int)) (me_ix ix_seq s_ix (me_var (pv 4)) me_int) (nomark _)) (me_one (me_callD D__law_just rfl (hr.mono (by decide)) (by rfl) tk (ma_cons (me_callD D__law_heard rfl (hr.mono (by decide)) (by rfl) tk (ma_cons me_int (ma_cons (me_var (pv 0)) (ma_cons (me_var (pv 1)) (ma_cons me_int ma_nil))))) (ma_cons (me_tup (ma_cons me_str (ma_cons me_str ma_nil))) ma_nil))))))) ms_nil)
      (ms_one (ms_ret (me_and (me_cmp (op_eqD (hu64 hr)) s_eq (me_op2 op_sub s_sub (me_ix ix_seq s_ix (me_var (pv 4)) me_int) (me_ix ix_seq s_ix (me_var (pv 3)) me_int)) (me_callB (c_sumA rfl) s_sumA (by rfl) B.z_sum (by decide +kernel) (ma_cons (me_var (pv 0)) ma_nil)) (nomark _)) (me_one (me_callD D__law_just rfl (hr.mono (by decide)) (by rfl) tk (ma_cons (me_callD D__law_heard rfl (hr.mono (by decide)) (by rfl) tk (ma_cons me_int (ma_cons (me_var (pv 0)) (ma_cons (me_var (pv 1)) (ma_cons me_int ma_nil))))) (ma_cons (me_tup (ma_cons me_str (ma_cons (me_callB (c_sumA rfl) s_sumA (by rfl) B.z_sum (by decide +kernel) (ma_cons (me_var (pv 0)) ma_nil)) ma_nil))) ma_nil)))))))))))))))))
theorem sc__law_tape : FnScope ["script", "tape", "cell", "rest", "turn", "many", "at"] ["script"] (defScope (topS 28)) := ⟨rfl, rfl, rfl, by decide +kernel, rfl, by decide +kernel, by decide +kernel⟩
theorem ok__law_tape (B : Bi K mg cA)  {f : Addr} {fd : FuncData} (Fu : L2.Fun K "_law_tape" "_law_tape" (topS 28) f fd) : FnOk P w K mg base (L2.CX P w) 1 f fd ["script"] (SpD K cA 1 F__law_tape) :=
  have S := sc__law_tape
  fn_okN (cA := cA) (N := ["script", "tape", "cell", "rest", "turn", "many", "at"]) 1 6 Fu sc__law_tape rfl rfl (fun cdv A outer s H E X hX hr tk hp => by
    subst hX
    exact (ms_cons (ms_set (i := 1) S.nd rfl (by first | exact Or.inl rfl | exact Or.inr rfl) (me_lst ma_nil))
      (ms_cons (ms_for hp rfl (mi_seq rfl (me_scr rfl (pv 0))) (mg_name (pg_name (i := 2) S.nd rfl (by first | exact Or.inl rfl | exact Or.inr rfl))) (ms_cons (ms_set (i := 3) S.nd rfl (by first | exact Or.inl rfl | exact Or.inr rfl) (me_op2 op_mod s_mod (me_callB call_abs s_abs (by rfl) B.z_abs (by decide +kernel) (ma_cons (me_callTy call_int1 s_int (by rfl) B.z_int (by decide +kernel) (ma_cons (me_var (pv 2)) ma_nil)) ma_nil)) (me_op2 op_pow s_pow me_int me_int)))
      (ms_cons (ms_if (mt_op op_lt s_lt (me_callTy call_int1 s_int (by rfl) B.z_int (by decide +kernel) (ma_cons (me_var (pv 2)) ma_nil)) me_int (nomark _)) (ms_one (ms_set (i := 3) S.nd rfl (by first | exact Or.inl rfl | exact Or.inr rfl) (me_op2 o_add s_add (me_op2 o_mulA s_mulA (me_var (pv 3)) me_int) me_int))) ms_nil)
      (ms_one (ms_for hp rfl (mi_rng1 (by rfl) B.z_range (ma_cons me_int ma_nil)) (mg_name (pg_name (i := 4) S.nd rfl (by first | exact Or.inl rfl | exact Or.inr rfl))) (ms_cons (ms_expr (me_app (pv 1) (me_op2 op_mod s_mod (me_callTy call_int1 s_int (by rfl) B.z_int (by decide +kernel) (ma_cons (me_var (pv 3)) ma_nil)) me_int)))
      (ms_cons (ms_set (i := 3) S.nd rfl (by first | exact Or.inl rfl | exact Or.inr rfl) (me_op2 op_fdivW s_div (me_var (pv 3)) me_int))
      (ms_one (ms_if (mt_op (op_eqD (hu64 hr)) s_eq (me_var (pv 3)) me_int (nomark _)) (ms_one ms_break) ms_nil)))))))))
      (ms_cons (ms_set (i := 5) S.nd rfl (by first | exact Or.inl rfl | exact Or.inr rfl) (me_callB c_len s_len (by rfl) B.z_len (by decide +kernel) (ma_cons (me_var (pv 1)) ma_nil)))
      (ms_one (ms_ret (me_lc (own := [("at", 6)]) rfl S.nd (mi_rng1 (by rfl) B.z_range (ma_cons (me_var (pv 5)) ma_nil)) (by show BlkOk ["script", "tape", "cell", "rest", "turn", "many", "at"] (defScope (topS 28)) _ [("at", 6)]; exact ⟨rfl, by decide +kernel, by decide +kernel, by decide +kernel, by decide +kernel⟩) (fun _ _ _ _ _ => (mg_name (pg_name (i := 6) S.nd rfl (by first | exact Or.inl rfl | exact Or.inr rfl)))) (fun _ _ _ _ _ => pts_nil) (fun _ _ _ _ _ => (me_ix ix_seq s_ix (me_var (pv 1)) (me_op2 op_sub s_sub (me_op2 op_sub s_sub (me_var (pv 5)) me_int) (me_var (pv 6))))) tt_nil (by decide) (by decide))))))))
theorem sc__law_tied : FnScope ["tape", "times", "turn"] ["tape"] (defScope (topS 32)) := ⟨rfl, rfl, rfl, by decide +kernel, rfl, by decide +kernel, by decide +kernel⟩
theorem ok__law_tied (B : Bi K mg cA) (D__law_take : Df P w K mg base cA "_law_take" 2 1 F__law_take) {f : Addr} {fd : FuncData} (Fu : L2.Fun K "_law_tied" "_law_tied" (topS 32) f fd) : FnOk P w K mg base (L2.CX P w) 2 f fd ["tape"] (SpD K cA 1 F__law_tied) :=
  have S := sc__law_tied
  fn_okN (cA := cA) (N := ["tape", "times", "turn"]) 1 2 Fu sc__law_tied rfl rfl (fun cdv A outer s H E X hX hr tk hp => by
    subst hX
    exact (ms_cons (ms_set (i := 1) S.nd rfl (by first | exact Or.inl rfl | exact Or.inr rfl) (me_lst (ma_cons (me_ix ix_seq s_ix (me_tup (ma_cons me_int (ma_cons me_int (ma_cons (me_un un_neg s_neg me_int) (ma_cons (me_op2 op_pow s_pow me_int me_int) ma_nil))))) (me_callBD D__law_take rfl (hr.mono (by decide)) (by rfl) tk (ma_cons (me_var (pv 0)) (ma_cons me_int ma_nil)))) ma_nil)))
      (ms_cons (ms_for hp rfl (mi_rng1 (by rfl) B.z_range (ma_cons (me_ix ix_seq s_ix (me_tup (ma_cons me_int (ma_cons me_int (ma_cons me_int (ma_cons me_int (ma_cons me_int ma_nil)))))) (me_callBD D__law_take rfl (hr.mono (by decide)) (by rfl) tk (ma_cons (me_var (pv 0)) (ma_cons me_int ma_nil)))) ma_nil)) (mg_name (pg_name (i := 2) S.nd rfl (by first | exact Or.inl rfl | exact Or.inr rfl))) (ms_one (ms_expr (me_app (pv 1) (me_op2 o_add s_add (me_ix ix_seq s_ix (me_var (pv 1)) (me_var (pv 2))) (me_ix ix_seq s_ix (me_tup (ma_cons me_int (ma_cons me_int (ma_cons me_int (ma_cons me_int (ma_cons me_int ma_nil)))))) (me_callBD D__law_take rfl (hr.mono (by decide)) (by rfl) tk (ma_cons (me_var (pv 0)) (ma_cons me_int ma_nil)))))))))
      (ms_one (ms_ret (me_callTy call_tuple_of s_tuple (by rfl) B.z_tuple (by decide +kernel) (ma_cons (me_var (pv 1)) ma_nil)))))))
theorem sc__law_z_row : FnScope ["tape", "first", "row", "turn"] ["tape", "first"] (defScope (topS 31)) := ⟨rfl, rfl, rfl, by decide +kernel, rfl, by decide +kernel, by decide +kernel⟩
theorem ok__law_z_row (B : Bi K mg cA) (D__law_take : Df P w K mg base cA "_law_take" 2 1 F__law_take) {f : Addr} {fd : FuncData} (Fu : L2.Fun K "_law_z_row" "_law_z_row" (topS 31) f fd) : FnOk P w K mg base (L2.CX P w) 2 f fd ["tape", "first"] (SpD K cA 2 F__law_z_row) :=
  have S := sc__law_z_row
  fn_okN (cA := cA) (N := ["tape", "first", "row", "turn"]) 2 2 Fu sc__law_z_row rfl rfl (fun cdv A outer s H E X hX hr tk hp => by
    subst hX
    exact (ms_cons (ms_set (i := 2) S.nd rfl (by first | exact Or.inl rfl | exact Or.inr rfl) (me_lst ma_nil))
      (ms_cons (ms_for hp rfl (mi_rng1 (by rfl) B.z_range (ma_cons (me_ix ix_seq s_ix (me_tup (ma_cons me_int (ma_cons me_int (ma_cons me_int (ma_cons me_int (ma_cons me_int ma_nil)))))) (me_callBD D__law_take rfl (hr.mono (by decide)) (by rfl) tk (ma_cons (me_var (pv 0)) (ma_cons me_int ma_nil)))) ma_nil)) (mg_name (pg_name (i := 3) S.nd rfl (by first | exact Or.inl rfl | exact Or.inr rfl))) (ms_one (ms_expr (me_app (pv 2) (me_ix ix_seq s_ix (me_tup (ma_cons (me_var (pv 1)) (ma_cons me_int (ma_cons me_int (ma_cons me_int (ma_cons me_int (ma_cons me_int ma_nil))))))) (me_callBD D__law_take rfl (hr.mono (by decide)) (by rfl) tk (ma_cons (me_var (pv 0)) (ma_cons me_int ma_nil))))))))
      (ms_one (ms_ret (me_callTy call_tuple_of s_tuple (by rfl) B.z_tuple (by decide +kernel) (ma_cons (me_var (pv 2)) ma_nil)))))))
theorem sc_law : FnScope ["script", "tape", "form", "row", "other", "times", "turn", "by", "d", "great"] ["script"] (defScope (topS 40)) := ⟨rfl, rfl, rfl, by decide +kernel, rfl, by decide +kernel, by decide +kernel⟩
theorem ok_law (B : Bi K mg cA) (D__law_closed_right : Df P w K mg base cA "_law_closed_right" 5 12 F__law_closed_right) (D__law_joined_right : Df P w K mg base cA "_law_joined_right" 3 12 F__law_joined_right) (D__law_pass_right : Df P w K mg base cA "_law_pass_right" 2 12 F__law_pass_right) (D__law_refused : Df P w K mg base cA "_law_refused" 3 12 F__law_refused) (D__law_stream_right : Df P w K mg base cA "_law_stream_right" 3 12 F__law_stream_right) (D__law_take : Df P w K mg base cA "_law_take" 2 1 F__law_take) (D__law_tape : Df P w K mg base cA "_law_tape" 1 1 F__law_tape) (D__law_tied : Df P w K mg base cA "_law_tied" 1 2 F__law_tied) (D__law_z_row : Df P w K mg base cA "_law_z_row" 2 2 F__law_z_row) {f : Addr} {fd : FuncData} (Fu : L2.Fun K "law" "law" (topS 40) f fd) : FnOk P w K mg base (L2.CX P w) 13 f fd ["script"] (SpD K cA 1 F_law) :=
  have S := sc_law
  fn_okN (cA := cA) (N := ["script", "tape", "form", "row", "other", "times", "turn", "by", "d", "great"]) 1 9 Fu sc_law rfl rfl (fun cdv A outer s H E X hX hr tk hp => by
    subst hX
    exact (ms_cons (ms_set (i := 1) S.nd rfl (by first | exact Or.inl rfl | exact Or.inr rfl) (me_callD D__law_tape rfl (hr.mono (by decide)) (by rfl) tk (ma_cons (me_varS (pv 0)) ma_nil)))
      (ms_cons (ms_set (i := 2) S.nd rfl (by first | exact Or.inl rfl | exact Or.inr rfl) (me_callBD D__law_take rfl (hr.mono (by decide)) (by rfl) tk (ma_cons (me_var (pv 1)) (ma_cons me_int ma_nil))))
      (ms_cons (ms_set (i := 3) S.nd rfl (by first | exact Or.inl rfl | exact Or.inr rfl) (me_callBD D__law_z_row rfl (hr.mono (by decide)) (by rfl) tk (ma_cons (me_var (pv 1)) (ma_cons me_int ma_nil))))
      (ms_cons (ms_set (i := 4) S.nd rfl (by first | exact Or.inl rfl | exact Or.inr rfl) (me_callBD D__law_z_row rfl (hr.mono (by decide)) (by rfl) tk (ma_cons (me_var (pv 1)) (ma_cons me_int ma_nil))))
      (ms_cons (ms_set (i := 5) S.nd rfl (by first | exact Or.inl rfl | exact Or.inr rfl) (me_callBD D__law_tied rfl (hr.mono (by decide)) (by rfl) tk (ma_cons (me_var (pv 1)) ma_nil)))
      (ms_cons (ms_set (i := 6) S.nd rfl (by first | exact Or.inl rfl | exact Or.inr rfl) (me_callBD D__law_take rfl (hr.mono (by decide)) (by rfl) tk (ma_cons (me_var (pv 1)) (ma_cons (me_callB c_len s_len (by rfl) B.z_len (by decide +kernel) (ma_cons (me_var (pv 3)) ma_nil)) ma_nil))))
      (ms_cons (ms_set (i := 7) S.nd rfl (by first | exact Or.inl rfl | exact Or.inr rfl) (me_ix ix_seq s_ix (me_tup (ma_cons (me_op2 op_pow s_pow me_int me_int) (ma_cons me_int (ma_cons me_int (ma_cons me_int ma_nil))))) (me_callBD D__law_take rfl (hr.mono (by decide)) (by rfl) tk (ma_cons (me_var (pv 1)) (ma_cons me_int ma_nil)))))
      (ms_cons (ms_if (mt_not (mt_val (me_callD D__law_closed_right rfl (hr.mono (by decide)) (by rfl) tk (ma_cons (me_var (pv 5)) (ma_cons (me_var (pv 3)) (ma_cons (me_op2 o_add s_add (me_sl rfl (me_var (pv 3)) (mo_some (me_var (pv 6))) mo_none) (me_sl rfl (me_var (pv 3)) mo_none (mo_some (me_var (pv 6))))) (ma_cons (me_var (pv 7)) (ma_cons (me_var (pv 2)) ma_nil)))))))) (ms_one (ms_ret me_bl)) ms_nil)
      (ms_cons (ms_if (mt_not (mt_val (me_callD D__law_closed_right rfl (hr.mono (by decide)) (by rfl) tk (ma_cons (me_var (pv 5)) (ma_cons (me_var (pv 3)) (ma_cons (me_revA rfl (me_var (pv 3))) (ma_cons me_int (ma_cons (me_var (pv 2)) ma_nil)))))))) (ms_one (ms_ret me_bl)) ms_nil)
      (ms_cons (ms_set (i := 8) S.nd rfl (by first | exact Or.inl rfl | exact Or.inr rfl) (me_ix ix_seq s_ix (me_tup (ma_cons me_int (ma_cons me_int (ma_cons me_int (ma_cons me_int (ma_cons me_int (ma_cons me_int ma_nil))))))) (me_callBD D__law_take rfl (hr.mono (by decide)) (by rfl) tk (ma_cons (me_var (pv 1)) (ma_cons me_int ma_nil)))))
      (ms_cons (ms_set (i := 9) S.nd rfl (by first | exact Or.inl rfl | exact Or.inr rfl) (me_op2 o_add s_add (me_op2 op_pow s_pow me_int me_int) (me_callBD D__law_take rfl (hr.mono (by decide)) (by rfl) tk (ma_cons (me_var (pv 1)) (ma_cons me_int ma_nil)))))
      (ms_cons (ms_if (PW.pt (mw_or (mt_not (mt_val (me_callD D__law_stream_right rfl (hr.mono (by decide)) (by rfl) tk (ma_cons (me_var (pv 3)) (ma_cons (me_var (pv 8)) (ma_cons (me_var (pv 9)) ma_nil)))))) (mw_or1 (mt_not (mt_val (me_callD D__law_pass_right rfl (hr.mono (by decide)) (by rfl) tk (ma_cons (me_var (pv 3)) (ma_cons (me_var (pv 9)) ma_nil)))))))) (ms_one (ms_ret me_bl)) ms_nil)
      (ms_one (ms_ret (me_and (me_callD D__law_joined_right rfl (hr.mono (by decide)) (by rfl) tk (ma_cons (me_var (pv 5)) (ma_cons (me_var (pv 3)) (ma_cons (me_var (pv 4)) ma_nil)))) (me_one (me_callBD D__law_refused rfl (hr.mono (by decide)) (by rfl) tk (ma_cons (me_var (pv 1)) (ma_cons (me_var (pv 5)) (ma_cons (me_var (pv 3)) ma_nil)))))))))))))))))))))
end
def cAf (l : List Addr) (k : Nat) : Addr := l.getD k 0
theorem bn__law_ends : Bnd (topS 33) "_law_ends" "_law_ends" ["times", "rows"] := fun _ _ _ _ _ _ us hl => match us, hl with | [_, _], _ => rfl
theorem bn_tupled : Bnd (topS 1) "tupled" "tupled" ["thing"] := fun _ _ _ _ _ _ us hl => match us, hl with | [_], _ => rfl
theorem bn_is_int : Bnd (topS 8) "is_int" "is_int" ["x"] := fun _ _ _ _ _ _ us hl => match us, hl with | [_], _ => rfl
theorem bn_queue_change : Bnd (topS 15) "queue_change" "queue_change" ["row", "i"] := fun _ _ _ _ _ _ us hl => match us, hl with | [_, _], _ => rfl
theorem bn_queue_dues : Bnd (topS 18) "queue_dues" "queue_dues" ["row", "total", "most"] := fun _ _ _ _ _ _ us hl => match us, hl with | [_, _, _], _ => rfl
theorem bn_queue_lengths : Bnd (topS 14) "queue_lengths" "queue_lengths" ["z"] := fun _ _ _ _ _ _ us hl => match us, hl with | [_], _ => rfl
theorem bn_queue_times : Bnd (topS 11) "queue_times" "queue_times" ["times"] := fun _ _ _ _ _ _ us hl => match us, hl with | [_], _ => rfl
theorem bn_closed_done : Bnd (topS 20) "closed_done" "closed_done" ["times", "z", "i"] := fun _ _ _ _ _ _ us hl => match us, hl with | [_, _, _], _ => rfl
theorem bn_least_to_pass : Bnd (topS 24) "least_to_pass" "least_to_pass" ["z", "h"] := fun _ _ _ _ _ _ us hl => match us, hl with | [_, _], _ => rfl
theorem bn_queue_join : Bnd (topS 23) "queue_join" "queue_join" ["z", "other"] := fun _ _ _ _ _ _ us hl => match us, hl with | [_, _], _ => rfl
theorem bn_queue_lag : Bnd (topS 26) "queue_lag" "queue_lag" ["highs", "d"] := fun _ _ _ _ _ _ us hl => match us, hl with | [_, _], _ => rfl
theorem bn_queue_sums : Bnd (topS 22) "queue_sums" "queue_sums" ["z"] := fun _ _ _ _ _ _ us hl => match us, hl with | [_], _ => rfl
theorem bn_stream_done : Bnd (topS 21) "stream_done" "stream_done" ["z", "d", "i"] := fun _ _ _ _ _ _ us hl => match us, hl with | [_, _, _], _ => rfl
theorem bn__law_heard : Bnd (topS 34) "_law_heard" "_law_heard" ["which", "one", "two", "three"] := fun _ _ _ _ _ _ us hl => match us, hl with | [_, _, _, _], _ => rfl
theorem bn__law_just : Bnd (topS 30) "_law_just" "_law_just" ["told", "due"] := fun _ _ _ _ _ _ us hl => match us, hl with | [_, _], _ => rfl
theorem bn_queue_cells : Bnd (topS 16) "queue_cells" "queue_cells" ["many", "wide"] := fun _ _ _ _ _ _ us hl => match us, hl with | [_, _], _ => rfl
theorem bn_queue_leavings : Bnd (topS 17) "queue_leavings" "queue_leavings" ["row", "rows"] := fun _ _ _ _ _ _ us hl => match us, hl with | [_, _], _ => rfl
theorem bn_queue_rows : Bnd (topS 12) "queue_rows" "queue_rows" ["hours"] := fun _ _ _ _ _ _ us hl => match us, hl with | [_], _ => rfl
theorem bn_queue_table : Bnd (topS 13) "queue_table" "queue_table" ["hours", "many"] := fun _ _ _ _ _ _ us hl => match us, hl with | [_, _], _ => rfl
theorem bn_done_at : Bnd (topS 19) "done_at" "done_at" ["times", "hours", "i"] := fun _ _ _ _ _ _ us hl => match us, hl with | [_, _, _], _ => rfl
theorem bn__law_closed_right : Bnd (topS 35) "_law_closed_right" "_law_closed_right" ["times", "row", "turned", "by", "form"] := fun _ _ _ _ _ _ us hl => match us, hl with | [_, _, _, _, _], _ => rfl
theorem bn__law_joined_right : Bnd (topS 38) "_law_joined_right" "_law_joined_right" ["times", "row", "other"] := fun _ _ _ _ _ _ us hl => match us, hl with | [_, _, _], _ => rfl
theorem bn__law_pass_right : Bnd (topS 37) "_law_pass_right" "_law_pass_right" ["row", "great"] := fun _ _ _ _ _ _ us hl => match us, hl with | [_, _], _ => rfl
theorem bn__law_take : Bnd (topS 29) "_law_take" "_law_take" ["tape", "many"] := fun _ _ _ _ _ _ us hl => match us, hl with | [_, _], _ => rfl
theorem bn__law_refused : Bnd (topS 39) "_law_refused" "_law_refused" ["tape", "times", "row"] := fun _ _ _ _ _ _ us hl => match us, hl with | [_, _, _], _ => rfl
theorem bn__law_stream_right : Bnd (topS 36) "_law_stream_right" "_law_stream_right" ["row", "d", "great"] := fun _ _ _ _ _ _ us hl => match us, hl with | [_, _, _], _ => rfl
theorem bn__law_tape : Bnd (topS 28) "_law_tape" "_law_tape" ["script"] := fun _ _ _ _ _ _ us hl => match us, hl with | [_], _ => rfl
theorem bn__law_tied : Bnd (topS 32) "_law_tied" "_law_tied" ["tape"] := fun _ _ _ _ _ _ us hl => match us, hl with | [_], _ => rfl
theorem bn__law_z_row : Bnd (topS 31) "_law_z_row" "_law_z_row" ["tape", "first"] := fun _ _ _ _ _ _ us hl => match us, hl with | [_, _], _ => rfl
theorem bn_law : Bnd (topS 40) "law" "law" ["script"] := fun _ _ _ _ _ _ us hl => match us, hl with | [_], _ => rfl
theorem bi_BadNumber : Bnd (meth (topS 3) 0) "__init__" "BadNumber.__init__" ["self", "at"] := fun _ _ _ _ _ _ us hl => match us, hl with | [_, _], _ => rfl
theorem si_BadNumber : FnScope ["self", "at"] ["self", "at"] (defScope (meth (topS 3) 0)) := ⟨rfl, rfl, rfl, by decide +kernel, rfl, by decide +kernel, by decide +kernel⟩
theorem bi_BadRow : Bnd (meth (topS 4) 0) "__init__" "BadRow.__init__" ["self", "at"] := fun _ _ _ _ _ _ us hl => match us, hl with | [_, _], _ => rfl
theorem si_BadRow : FnScope ["self", "at"] ["self", "at"] (defScope (meth (topS 4) 0)) := ⟨rfl, rfl, rfl, by decide +kernel, rfl, by decide +kernel, by decide +kernel⟩
theorem bi_TooMany : Bnd (meth (topS 6) 0) "__init__" "TooMany.__init__" ["self", "limit"] := fun _ _ _ _ _ _ us hl => match us, hl with | [_, _], _ => rfl
theorem si_TooMany : FnScope ["self", "limit"] ["self", "limit"] (defScope (meth (topS 6) 0)) := ⟨rfl, rfl, rfl, by decide +kernel, rfl, by decide +kernel, by decide +kernel⟩
def spLaw (K : PySem.W.Frag) : Sp := fun vs H Q E => ∃ (a : Addr) (ns : List Int), vs = [.ref a] ∧ SqL K H a (ns.map V.int) ∧ ns.length ≤ 63 ∧ ∀ H', Q (.bl true) H'
theorem all_mk (law_true : ∀ ns : List Int, ns.length ≤ 63 → F_law [.scr ns] = .ok (.fro (.bool true)) none) {P : Program} {w : World} {K : PySem.W.Frag} {h : Heap} {mg : Str → Option Value} {fa : Addr} (X : K.In h) (G : h.Ns mainGlobals mg) (hfa : mg "law" = some (.ref fa))
    {C_DoneError C_BadNumber C_BadRow C_BadCase C_TooMany I_BadNumber I_BadRow I_TooMany f__law_ends f_tupled f_is_int f_queue_change f_queue_dues f_queue_lengths f_queue_times f_closed_done f_least_to_pass f_queue_join f_queue_lag f_queue_sums f_stream_done f__law_heard f__law_just f_queue_cells f_queue_leavings f_queue_rows f_queue_table f_done_at f__law_closed_right f__law_joined_right f__law_pass_right f__law_take f__law_refused f__law_stream_right f__law_tape f__law_tied f__law_z_row f_law : Addr} {t_MOST_CELLS : Tok}
    (a_DoneError : PySem.W.nsIn K mainGlobals "DoneError" = some (some (.ref C_DoneError)))
    (a_BadNumber : PySem.W.nsIn K mainGlobals "BadNumber" = some (some (.ref C_BadNumber)))
    (a_BadRow : PySem.W.nsIn K mainGlobals "BadRow" = some (some (.ref C_BadRow)))
    (a_BadCase : PySem.W.nsIn K mainGlobals "BadCase" = some (some (.ref C_BadCase)))
    (a_TooMany : PySem.W.nsIn K mainGlobals "TooMany" = some (some (.ref C_TooMany)))
    (e_DoneError : ErC K C_DoneError)
    (e_BadNumber : ErC K C_BadNumber)
    (e_BadRow : ErC K C_BadRow)
    (e_BadCase : ErC K C_BadCase)
    (e_TooMany : ErC K C_TooMany)
    (kt_1_0 : PySem.W.kitOne K (.ref C_DoneError) (.type "ValueError") = some true)
    (ex_1_0 : PySem.W.exmOne K (.ref C_DoneError) (.type "ValueError") = some true)
    (kt_1_1 : PySem.W.kitOne K (.ref C_DoneError) (.ref C_DoneError) = some true)
    (ex_1_1 : PySem.W.exmOne K (.ref C_DoneError) (.ref C_DoneError) = some true)
    (kt_1_2 : PySem.W.kitOne K (.ref C_DoneError) (.ref C_BadNumber) = some false)
    (ex_1_2 : PySem.W.exmOne K (.ref C_DoneError) (.ref C_BadNumber) = some false)
    (kt_1_3 : PySem.W.kitOne K (.ref C_DoneError) (.ref C_BadRow) = some false)
    (ex_1_3 : PySem.W.exmOne K (.ref C_DoneError) (.ref C_BadRow) = some false)
    (kt_1_4 : PySem.W.kitOne K (.ref C_DoneError) (.ref C_BadCase) = some false)
    (ex_1_4 : PySem.W.exmOne K (.ref C_DoneError) (.ref C_BadCase) = some false)
    (kt_1_5 : PySem.W.kitOne K (.ref C_DoneError) (.ref C_TooMany) = some false)
    (ex_1_5 : PySem.W.exmOne K (.ref C_DoneError) (.ref C_TooMany) = some false)
    (f_1_at : PySem.W.findIn K (.ref C_DoneError) "at" = some none)
    (f_1_limit : PySem.W.findIn K (.ref C_DoneError) "limit" = some none)
    (f_1_line : PySem.W.findIn K (.ref C_DoneError) "line" = some none)
    (kt_2_0 : PySem.W.kitOne K (.ref C_BadNumber) (.type "ValueError") = some true)
    (ex_2_0 : PySem.W.exmOne K (.ref C_BadNumber) (.type "ValueError") = some true)
    (kt_2_1 : PySem.W.kitOne K (.ref C_BadNumber) (.ref C_DoneError) = some true)
    (ex_2_1 : PySem.W.exmOne K (.ref C_BadNumber) (.ref C_DoneError) = some true)
    (kt_2_2 : PySem.W.kitOne K (.ref C_BadNumber) (.ref C_BadNumber) = some true)
    (ex_2_2 : PySem.W.exmOne K (.ref C_BadNumber) (.ref C_BadNumber) = some true)
    (kt_2_3 : PySem.W.kitOne K (.ref C_BadNumber) (.ref C_BadRow) = some false)
    (ex_2_3 : PySem.W.exmOne K (.ref C_BadNumber) (.ref C_BadRow) = some false)
    (kt_2_4 : PySem.W.kitOne K (.ref C_BadNumber) (.ref C_BadCase) = some false)
    (ex_2_4 : PySem.W.exmOne K (.ref C_BadNumber) (.ref C_BadCase) = some false)
    (kt_2_5 : PySem.W.kitOne K (.ref C_BadNumber) (.ref C_TooMany) = some false)
    (ex_2_5 : PySem.W.exmOne K (.ref C_BadNumber) (.ref C_TooMany) = some false)
    (f_2_at : PySem.W.findIn K (.ref C_BadNumber) "at" = some none)
    (f_2_limit : PySem.W.findIn K (.ref C_BadNumber) "limit" = some none)
    (f_2_line : PySem.W.findIn K (.ref C_BadNumber) "line" = some none)
    (kt_3_0 : PySem.W.kitOne K (.ref C_BadRow) (.type "ValueError") = some true)
    (ex_3_0 : PySem.W.exmOne K (.ref C_BadRow) (.type "ValueError") = some true)
    (kt_3_1 : PySem.W.kitOne K (.ref C_BadRow) (.ref C_DoneError) = some true)
    (ex_3_1 : PySem.W.exmOne K (.ref C_BadRow) (.ref C_DoneError) = some true)
    (kt_3_2 : PySem.W.kitOne K (.ref C_BadRow) (.ref C_BadNumber) = some false)
    (ex_3_2 : PySem.W.exmOne K (.ref C_BadRow) (.ref C_BadNumber) = some false)
    (kt_3_3 : PySem.W.kitOne K (.ref C_BadRow) (.ref C_BadRow) = some true)
    (ex_3_3 : PySem.W.exmOne K (.ref C_BadRow) (.ref C_BadRow) = some true)
    (kt_3_4 : PySem.W.kitOne K (.ref C_BadRow) (.ref C_BadCase) = some false)
    (ex_3_4 : PySem.W.exmOne K (.ref C_BadRow) (.ref C_BadCase) = some false)
    (kt_3_5 : PySem.W.kitOne K (.ref C_BadRow) (.ref C_TooMany) = some false)
    (ex_3_5 : PySem.W.exmOne K (.ref C_BadRow) (.ref C_TooMany) = some false)
    (f_3_at : PySem.W.findIn K (.ref C_BadRow) "at" = some none)
    (f_3_limit : PySem.W.findIn K (.ref C_BadRow) "limit" = some none)
    (f_3_line : PySem.W.findIn K (.ref C_BadRow) "line" = some none)
    (kt_4_0 : PySem.W.kitOne K (.ref C_BadCase) (.type "ValueError") = some true)
    (ex_4_0 : PySem.W.exmOne K (.ref C_BadCase) (.type "ValueError") = some true)
    (kt_4_1 : PySem.W.kitOne K (.ref C_BadCase) (.ref C_DoneError) = some true)
    (ex_4_1 : PySem.W.exmOne K (.ref C_BadCase) (.ref C_DoneError) = some true)
    (kt_4_2 : PySem.W.kitOne K (.ref C_BadCase) (.ref C_BadNumber) = some false)
    (ex_4_2 : PySem.W.exmOne K (.ref C_BadCase) (.ref C_BadNumber) = some false)
    (kt_4_3 : PySem.W.kitOne K (.ref C_BadCase) (.ref C_BadRow) = some false)
    (ex_4_3 : PySem.W.exmOne K (.ref C_BadCase) (.ref C_BadRow) = some false)
    (kt_4_4 : PySem.W.kitOne K (.ref C_BadCase) (.ref C_BadCase) = some true)
    (ex_4_4 : PySem.W.exmOne K (.ref C_BadCase) (.ref C_BadCase) = some true)
    (kt_4_5 : PySem.W.kitOne K (.ref C_BadCase) (.ref C_TooMany) = some false)
    (ex_4_5 : PySem.W.exmOne K (.ref C_BadCase) (.ref C_TooMany) = some false)
    (f_4_at : PySem.W.findIn K (.ref C_BadCase) "at" = some none)
    (f_4_limit : PySem.W.findIn K (.ref C_BadCase) "limit" = some none)
    (f_4_line : PySem.W.findIn K (.ref C_BadCase) "line" = some none)
    (kt_5_0 : PySem.W.kitOne K (.ref C_TooMany) (.type "ValueError") = some true)
    (ex_5_0 : PySem.W.exmOne K (.ref C_TooMany) (.type "ValueError") = some true)
    (kt_5_1 : PySem.W.kitOne K (.ref C_TooMany) (.ref C_DoneError) = some true)
    (ex_5_1 : PySem.W.exmOne K (.ref C_TooMany) (.ref C_DoneError) = some true)
    (kt_5_2 : PySem.W.kitOne K (.ref C_TooMany) (.ref C_BadNumber) = some false)
    (ex_5_2 : PySem.W.exmOne K (.ref C_TooMany) (.ref C_BadNumber) = some false)
    (kt_5_3 : PySem.W.kitOne K (.ref C_TooMany) (.ref C_BadRow) = some false)
    (ex_5_3 : PySem.W.exmOne K (.ref C_TooMany) (.ref C_BadRow) = some false)
    (kt_5_4 : PySem.W.kitOne K (.ref C_TooMany) (.ref C_BadCase) = some false)
    (ex_5_4 : PySem.W.exmOne K (.ref C_TooMany) (.ref C_BadCase) = some false)
    (kt_5_5 : PySem.W.kitOne K (.ref C_TooMany) (.ref C_TooMany) = some true)
    (ex_5_5 : PySem.W.exmOne K (.ref C_TooMany) (.ref C_TooMany) = some true)
    (f_5_at : PySem.W.findIn K (.ref C_TooMany) "at" = some none)
    (f_5_limit : PySem.W.findIn K (.ref C_TooMany) "limit" = some none)
    (f_5_line : PySem.W.findIn K (.ref C_TooMany) "line" = some none)
    (o_BadNumber : OexC K C_BadNumber)
    (i_BadNumber : PySem.W.findIn K (.ref C_BadNumber) "__init__" = some (some (.ref I_BadNumber)))
    (t_BadNumber : PySem.W.typeIn K (.ref I_BadNumber) = some (.type "function"))
    (d_BadNumber : DefAt K "__init__" "BadNumber.__init__" (meth (topS 3) 0) I_BadNumber)
    (o_BadRow : OexC K C_BadRow)
    (i_BadRow : PySem.W.findIn K (.ref C_BadRow) "__init__" = some (some (.ref I_BadRow)))
    (t_BadRow : PySem.W.typeIn K (.ref I_BadRow) = some (.type "function"))
    (d_BadRow : DefAt K "__init__" "BadRow.__init__" (meth (topS 4) 0) I_BadRow)
    (o_TooMany : OexC K C_TooMany)
    (i_TooMany : PySem.W.findIn K (.ref C_TooMany) "__init__" = some (some (.ref I_TooMany)))
    (t_TooMany : PySem.W.typeIn K (.ref I_TooMany) = some (.type "function"))
    (d_TooMany : DefAt K "__init__" "TooMany.__init__" (meth (topS 6) 0) I_TooMany)
    (a__law_ends : PySem.W.nsIn K mainGlobals "_law_ends" = some (some (.ref f__law_ends)))
    (d__law_ends : DefAt K "_law_ends" "_law_ends" (topS 33) f__law_ends)
    (a_tupled : PySem.W.nsIn K mainGlobals "tupled" = some (some (.ref f_tupled)))
    (d_tupled : DefAt K "tupled" "tupled" (topS 1) f_tupled)
    (a_is_int : PySem.W.nsIn K mainGlobals "is_int" = some (some (.ref f_is_int)))
    (d_is_int : DefAt K "is_int" "is_int" (topS 8) f_is_int)
    (a_queue_change : PySem.W.nsIn K mainGlobals "queue_change" = some (some (.ref f_queue_change)))
    (d_queue_change : DefAt K "queue_change" "queue_change" (topS 15) f_queue_change)
    (a_queue_dues : PySem.W.nsIn K mainGlobals "queue_dues" = some (some (.ref f_queue_dues)))
    (d_queue_dues : DefAt K "queue_dues" "queue_dues" (topS 18) f_queue_dues)
    (a_queue_lengths : PySem.W.nsIn K mainGlobals "queue_lengths" = some (some (.ref f_queue_lengths)))
    (d_queue_lengths : DefAt K "queue_lengths" "queue_lengths" (topS 14) f_queue_lengths)
    (a_queue_times : PySem.W.nsIn K mainGlobals "queue_times" = some (some (.ref f_queue_times)))
    (d_queue_times : DefAt K "queue_times" "queue_times" (topS 11) f_queue_times)
    (a_closed_done : PySem.W.nsIn K mainGlobals "closed_done" = some (some (.ref f_closed_done)))
    (d_closed_done : DefAt K "closed_done" "closed_done" (topS 20) f_closed_done)
    (a_least_to_pass : PySem.W.nsIn K mainGlobals "least_to_pass" = some (some (.ref f_least_to_pass)))
    (d_least_to_pass : DefAt K "least_to_pass" "least_to_pass" (topS 24) f_least_to_pass)
    (a_queue_join : PySem.W.nsIn K mainGlobals "queue_join" = some (some (.ref f_queue_join)))
    (d_queue_join : DefAt K "queue_join" "queue_join" (topS 23) f_queue_join)
    (a_queue_lag : PySem.W.nsIn K mainGlobals "queue_lag" = some (some (.ref f_queue_lag)))
    (d_queue_lag : DefAt K "queue_lag" "queue_lag" (topS 26) f_queue_lag)
    (a_queue_sums : PySem.W.nsIn K mainGlobals "queue_sums" = some (some (.ref f_queue_sums)))
    (d_queue_sums : DefAt K "queue_sums" "queue_sums" (topS 22) f_queue_sums)
    (a_stream_done : PySem.W.nsIn K mainGlobals "stream_done" = some (some (.ref f_stream_done)))
    (d_stream_done : DefAt K "stream_done" "stream_done" (topS 21) f_stream_done)
    (a__law_heard : PySem.W.nsIn K mainGlobals "_law_heard" = some (some (.ref f__law_heard)))
    (d__law_heard : DefAt K "_law_heard" "_law_heard" (topS 34) f__law_heard)
    (a__law_just : PySem.W.nsIn K mainGlobals "_law_just" = some (some (.ref f__law_just)))
    (d__law_just : DefAt K "_law_just" "_law_just" (topS 30) f__law_just)
    (a_queue_cells : PySem.W.nsIn K mainGlobals "queue_cells" = some (some (.ref f_queue_cells)))
    (d_queue_cells : DefAt K "queue_cells" "queue_cells" (topS 16) f_queue_cells)
    (a_queue_leavings : PySem.W.nsIn K mainGlobals "queue_leavings" = some (some (.ref f_queue_leavings)))
    (d_queue_leavings : DefAt K "queue_leavings" "queue_leavings" (topS 17) f_queue_leavings)
    (a_queue_rows : PySem.W.nsIn K mainGlobals "queue_rows" = some (some (.ref f_queue_rows)))
    (d_queue_rows : DefAt K "queue_rows" "queue_rows" (topS 12) f_queue_rows)
    (a_queue_table : PySem.W.nsIn K mainGlobals "queue_table" = some (some (.ref f_queue_table)))
    (d_queue_table : DefAt K "queue_table" "queue_table" (topS 13) f_queue_table)
    (a_done_at : PySem.W.nsIn K mainGlobals "done_at" = some (some (.ref f_done_at)))
    (d_done_at : DefAt K "done_at" "done_at" (topS 19) f_done_at)
    (a__law_closed_right : PySem.W.nsIn K mainGlobals "_law_closed_right" = some (some (.ref f__law_closed_right)))
    (d__law_closed_right : DefAt K "_law_closed_right" "_law_closed_right" (topS 35) f__law_closed_right)
    (a__law_joined_right : PySem.W.nsIn K mainGlobals "_law_joined_right" = some (some (.ref f__law_joined_right)))
    (d__law_joined_right : DefAt K "_law_joined_right" "_law_joined_right" (topS 38) f__law_joined_right)
    (a__law_pass_right : PySem.W.nsIn K mainGlobals "_law_pass_right" = some (some (.ref f__law_pass_right)))
    (d__law_pass_right : DefAt K "_law_pass_right" "_law_pass_right" (topS 37) f__law_pass_right)
    (a__law_take : PySem.W.nsIn K mainGlobals "_law_take" = some (some (.ref f__law_take)))
    (d__law_take : DefAt K "_law_take" "_law_take" (topS 29) f__law_take)
    (a__law_refused : PySem.W.nsIn K mainGlobals "_law_refused" = some (some (.ref f__law_refused)))
    (d__law_refused : DefAt K "_law_refused" "_law_refused" (topS 39) f__law_refused)
    (a__law_stream_right : PySem.W.nsIn K mainGlobals "_law_stream_right" = some (some (.ref f__law_stream_right)))
    (d__law_stream_right : DefAt K "_law_stream_right" "_law_stream_right" (topS 36) f__law_stream_right)
    (a__law_tape : PySem.W.nsIn K mainGlobals "_law_tape" = some (some (.ref f__law_tape)))
    (d__law_tape : DefAt K "_law_tape" "_law_tape" (topS 28) f__law_tape)
    (a__law_tied : PySem.W.nsIn K mainGlobals "_law_tied" = some (some (.ref f__law_tied)))
    (d__law_tied : DefAt K "_law_tied" "_law_tied" (topS 32) f__law_tied)
    (a__law_z_row : PySem.W.nsIn K mainGlobals "_law_z_row" = some (some (.ref f__law_z_row)))
    (d__law_z_row : DefAt K "_law_z_row" "_law_z_row" (topS 31) f__law_z_row)
    (a_law : PySem.W.nsIn K mainGlobals "law" = some (some (.ref f_law)))
    (d_law : DefAt K "law" "law" (topS 40) f_law)
    (z_abs : PySem.W.nsIn K mainGlobals "abs" = some none)
    (z_all : PySem.W.nsIn K mainGlobals "all" = some none)
    (z_bool : PySem.W.nsIn K mainGlobals "bool" = some none)
    (z_int : PySem.W.nsIn K mainGlobals "int" = some none)
    (z_isinstance : PySem.W.nsIn K mainGlobals "isinstance" = some none)
    (z_len : PySem.W.nsIn K mainGlobals "len" = some none)
    (z_list : PySem.W.nsIn K mainGlobals "list" = some none)
    (z_max : PySem.W.nsIn K mainGlobals "max" = some none)
    (z_range : PySem.W.nsIn K mainGlobals "range" = some none)
    (z_str : PySem.W.nsIn K mainGlobals "str" = some none)
    (z_sum : PySem.W.nsIn K mainGlobals "sum" = some none)
    (z_tuple : PySem.W.nsIn K mainGlobals "tuple" = some none)
    (k_MOST_CELLS : PySem.W.nsIn K mainGlobals "MOST_CELLS" = some (some (.int 40000 t_MOST_CELLS))) :
    ∃ fd : FuncData, (∀ (s : Shared) (v : Value), BindsTo s fd ⟨[v], []⟩ [("script", v)]) ∧ ∀ base : Heap, K.In base → base.Ns mainGlobals mg → FnOk P w K mg base (L2.CX P w) 13 fa fd ["script"] (spLaw K) := by
  have e := hfa.symm.trans (PySem.W.mg_of X G a_law)
  cases e
  have B : Bi K mg (cAf [0, C_DoneError, C_BadNumber, C_BadRow, C_BadCase, C_TooMany]) := {
    z_abs := PySem.W.mg_none_of X G z_abs
    z_all := PySem.W.mg_none_of X G z_all
    z_bool := PySem.W.mg_none_of X G z_bool
    z_int := PySem.W.mg_none_of X G z_int
    z_isinstance := PySem.W.mg_none_of X G z_isinstance
    z_len := PySem.W.mg_none_of X G z_len
    z_list := PySem.W.mg_none_of X G z_list
    z_max := PySem.W.mg_none_of X G z_max
    z_range := PySem.W.mg_none_of X G z_range
    z_str := PySem.W.mg_none_of X G z_str
    z_sum := PySem.W.mg_none_of X G z_sum
    z_tuple := PySem.W.mg_none_of X G z_tuple
    k_MOST_CELLS := ⟨_, PySem.W.mg_of X G k_MOST_CELLS⟩
    m_DoneError := PySem.W.mg_of X G a_DoneError
    m_BadNumber := PySem.W.mg_of X G a_BadNumber
    m_BadRow := PySem.W.mg_of X G a_BadRow
    m_BadCase := PySem.W.mg_of X G a_BadCase
    m_TooMany := PySem.W.mg_of X G a_TooMany
    errs := {
      er := fun k h1 h2 => match k, h1, h2 with
        | 0, h1, _ => absurd h1 (by decide)
        | 1, _, _ => e_DoneError
        | 2, _, _ => e_BadNumber
        | 3, _, _ => e_BadRow
        | 4, _, _ => e_BadCase
        | 5, _, _ => e_TooMany
        | k + 6, _, h => absurd h (by omega)
      kit := fun k h1 h2 j h3 => match k, h1, h2, j, h3 with
        | 0, h1, _, _, _ => absurd h1 (by decide)
        | 1, _, _, 0, _ => kt_1_0
        | 1, _, _, 1, _ => kt_1_1
        | 1, _, _, 2, _ => kt_1_2
        | 1, _, _, 3, _ => kt_1_3
        | 1, _, _, 4, _ => kt_1_4
        | 1, _, _, 5, _ => kt_1_5
        | 2, _, _, 0, _ => kt_2_0
        | 2, _, _, 1, _ => kt_2_1
        | 2, _, _, 2, _ => kt_2_2
        | 2, _, _, 3, _ => kt_2_3
        | 2, _, _, 4, _ => kt_2_4
        | 2, _, _, 5, _ => kt_2_5
        | 3, _, _, 0, _ => kt_3_0
        | 3, _, _, 1, _ => kt_3_1
        | 3, _, _, 2, _ => kt_3_2
        | 3, _, _, 3, _ => kt_3_3
        | 3, _, _, 4, _ => kt_3_4
        | 3, _, _, 5, _ => kt_3_5
        | 4, _, _, 0, _ => kt_4_0
        | 4, _, _, 1, _ => kt_4_1
        | 4, _, _, 2, _ => kt_4_2
        | 4, _, _, 3, _ => kt_4_3
        | 4, _, _, 4, _ => kt_4_4
        | 4, _, _, 5, _ => kt_4_5
        | 5, _, _, 0, _ => kt_5_0
        | 5, _, _, 1, _ => kt_5_1
        | 5, _, _, 2, _ => kt_5_2
        | 5, _, _, 3, _ => kt_5_3
        | 5, _, _, 4, _ => kt_5_4
        | 5, _, _, 5, _ => kt_5_5
        | k + 6, _, h, _, _ => absurd h (by omega)
        | _, _, _, j + 6, h => absurd h (by omega)
      exm := fun k h1 h2 j h3 => match k, h1, h2, j, h3 with
        | 0, h1, _, _, _ => absurd h1 (by decide)
        | 1, _, _, 0, _ => ex_1_0
        | 1, _, _, 1, _ => ex_1_1
        | 1, _, _, 2, _ => ex_1_2
        | 1, _, _, 3, _ => ex_1_3
        | 1, _, _, 4, _ => ex_1_4
        | 1, _, _, 5, _ => ex_1_5
        | 2, _, _, 0, _ => ex_2_0
        | 2, _, _, 1, _ => ex_2_1
        | 2, _, _, 2, _ => ex_2_2
        | 2, _, _, 3, _ => ex_2_3
        | 2, _, _, 4, _ => ex_2_4
        | 2, _, _, 5, _ => ex_2_5
        | 3, _, _, 0, _ => ex_3_0
        | 3, _, _, 1, _ => ex_3_1
        | 3, _, _, 2, _ => ex_3_2
        | 3, _, _, 3, _ => ex_3_3
        | 3, _, _, 4, _ => ex_3_4
        | 3, _, _, 5, _ => ex_3_5
        | 4, _, _, 0, _ => ex_4_0
        | 4, _, _, 1, _ => ex_4_1
        | 4, _, _, 2, _ => ex_4_2
        | 4, _, _, 3, _ => ex_4_3
        | 4, _, _, 4, _ => ex_4_4
        | 4, _, _, 5, _ => ex_4_5
        | 5, _, _, 0, _ => ex_5_0
        | 5, _, _, 1, _ => ex_5_1
        | 5, _, _, 2, _ => ex_5_2
        | 5, _, _, 3, _ => ex_5_3
        | 5, _, _, 4, _ => ex_5_4
        | 5, _, _, 5, _ => ex_5_5
        | k + 6, _, h, _, _ => absurd h (by omega)
        | _, _, _, j + 6, h => absurd h (by omega)
      f1 := fun k h1 h2 f hf => match k, h1, h2 with
        | 0, h1, _ => absurd h1 (by decide)
        | 1, _, _ => by rcases hf with rfl | rfl | rfl; exact f_1_at; exact f_1_limit; exact f_1_line
        | 2, _, _ => by rcases hf with rfl | rfl | rfl; exact f_2_at; exact f_2_limit; exact f_2_line
        | 3, _, _ => by rcases hf with rfl | rfl | rfl; exact f_3_at; exact f_3_limit; exact f_3_line
        | 4, _, _ => by rcases hf with rfl | rfl | rfl; exact f_4_at; exact f_4_limit; exact f_4_line
        | 5, _, _ => by rcases hf with rfl | rfl | rfl; exact f_5_at; exact f_5_limit; exact f_5_line
        | k + 6, _, h => absurd h (by omega) } }
  obtain ⟨fd, Fu⟩ := d_law.fn
  refine ⟨fd, fun s v => ?_, fun base _ _ => ?_⟩
  · obtain ⟨oc, od, kV, doc, pm, an, cdv, ct, osl, rfl, _⟩ := Fu.ex
    exact .of_eq rfl
  · have D__law_ends : Df P w K mg base (cAf [0, C_DoneError, C_BadNumber, C_BadRow, C_BadCase, C_TooMany]) "_law_ends" 2 1 F__law_ends := df_mk d__law_ends bn__law_ends (PySem.W.mg_of X G a__law_ends) fdN_len fun fd Fu => ok__law_ends B  Fu
    have D_tupled : Df P w K mg base (cAf [0, C_DoneError, C_BadNumber, C_BadRow, C_BadCase, C_TooMany]) "tupled" 1 6 (F_tupled 6) := df_rec (F := F_tupled) d_tupled bn_tupled (PySem.W.mg_of X G a_tupled) rfl (fun m => match m with | 0 => fun _ _ => rfl | m + 1 => fdN_len) (fun m D fd Fu => ok_tupled B  m D Fu) 6
    have R_BadNumber : Rz P w K mg base (cAf [0, C_DoneError, C_BadNumber, C_BadRow, C_BadCase, C_TooMany]) "BadNumber" 2 "at" ini_BadNumber 7 := by
      obtain ⟨fd, Fu⟩ := d_BadNumber.fn
      exact ⟨⟨_, fd, _, o_BadNumber, i_BadNumber, t_BadNumber, f_2_at, ok_BadNumber B D_tupled Fu si_BadNumber, Fu.binds bi_BadNumber⟩, B.m_BadNumber⟩
    have D_is_int : Df P w K mg base (cAf [0, C_DoneError, C_BadNumber, C_BadRow, C_BadCase, C_TooMany]) "is_int" 1 1 F_is_int := df_mk d_is_int bn_is_int (PySem.W.mg_of X G a_is_int) fdN_len fun fd Fu => ok_is_int B  Fu
    have D_queue_change : Df P w K mg base (cAf [0, C_DoneError, C_BadNumber, C_BadRow, C_BadCase, C_TooMany]) "queue_change" 2 9 F_queue_change := df_mk d_queue_change bn_queue_change (PySem.W.mg_of X G a_queue_change) fdN_len fun fd Fu => ok_queue_change B D_is_int R_BadNumber Fu
    have D_queue_dues : Df P w K mg base (cAf [0, C_DoneError, C_BadNumber, C_BadRow, C_BadCase, C_TooMany]) "queue_dues" 3 1 F_queue_dues := df_mk d_queue_dues bn_queue_dues (PySem.W.mg_of X G a_queue_dues) fdN_len fun fd Fu => ok_queue_dues B  Fu
    have D_queue_lengths : Df P w K mg base (cAf [0, C_DoneError, C_BadNumber, C_BadRow, C_BadCase, C_TooMany]) "queue_lengths" 1 9 F_queue_lengths := df_mk d_queue_lengths bn_queue_lengths (PySem.W.mg_of X G a_queue_lengths) fdN_len fun fd Fu => ok_queue_lengths B D_is_int R_BadNumber Fu
    have R_BadRow : Rz P w K mg base (cAf [0, C_DoneError, C_BadNumber, C_BadRow, C_BadCase, C_TooMany]) "BadRow" 3 "at" ini_BadRow 7 := by
      obtain ⟨fd, Fu⟩ := d_BadRow.fn
      exact ⟨⟨_, fd, _, o_BadRow, i_BadRow, t_BadRow, f_3_at, ok_BadRow B D_tupled Fu si_BadRow, Fu.binds bi_BadRow⟩, B.m_BadRow⟩
    have D_queue_times : Df P w K mg base (cAf [0, C_DoneError, C_BadNumber, C_BadRow, C_BadCase, C_TooMany]) "queue_times" 1 9 F_queue_times := df_mk d_queue_times bn_queue_times (PySem.W.mg_of X G a_queue_times) fdN_len fun fd Fu => ok_queue_times B D_is_int R_BadRow Fu
    have D_closed_done : Df P w K mg base (cAf [0, C_DoneError, C_BadNumber, C_BadRow, C_BadCase, C_TooMany]) "closed_done" 3 10 F_closed_done := df_mk d_closed_done bn_closed_done (PySem.W.mg_of X G a_closed_done) fdN_len fun fd Fu => ok_closed_done B D_queue_change D_queue_dues D_queue_lengths D_queue_times Fu
    have D_least_to_pass : Df P w K mg base (cAf [0, C_DoneError, C_BadNumber, C_BadRow, C_BadCase, C_TooMany]) "least_to_pass" 2 10 F_least_to_pass := df_mk d_least_to_pass bn_least_to_pass (PySem.W.mg_of X G a_least_to_pass) fdN_len fun fd Fu => ok_least_to_pass B D_is_int D_queue_lengths R_BadNumber Fu
    have D_queue_join : Df P w K mg base (cAf [0, C_DoneError, C_BadNumber, C_BadRow, C_BadCase, C_TooMany]) "queue_join" 2 10 F_queue_join := df_mk d_queue_join bn_queue_join (PySem.W.mg_of X G a_queue_join) fdN_len fun fd Fu => ok_queue_join B D_is_int D_queue_lengths R_BadNumber Fu
    have D_queue_lag : Df P w K mg base (cAf [0, C_DoneError, C_BadNumber, C_BadRow, C_BadCase, C_TooMany]) "queue_lag" 2 10 F_queue_lag := df_mk d_queue_lag bn_queue_lag (PySem.W.mg_of X G a_queue_lag) fdN_len fun fd Fu => ok_queue_lag B D_is_int D_queue_lengths R_BadNumber Fu
    have D_queue_sums : Df P w K mg base (cAf [0, C_DoneError, C_BadNumber, C_BadRow, C_BadCase, C_TooMany]) "queue_sums" 1 10 F_queue_sums := df_mk d_queue_sums bn_queue_sums (PySem.W.mg_of X G a_queue_sums) fdN_len fun fd Fu => ok_queue_sums B D_queue_lengths Fu
    have D_stream_done : Df P w K mg base (cAf [0, C_DoneError, C_BadNumber, C_BadRow, C_BadCase, C_TooMany]) "stream_done" 3 10 F_stream_done := df_mk d_stream_done bn_stream_done (PySem.W.mg_of X G a_stream_done) fdN_len fun fd Fu => ok_stream_done B D_is_int D_queue_lengths R_BadNumber Fu
    have D__law_heard : Df P w K mg base (cAf [0, C_DoneError, C_BadNumber, C_BadRow, C_BadCase, C_TooMany]) "_law_heard" 4 11 F__law_heard := df_mk d__law_heard bn__law_heard (PySem.W.mg_of X G a__law_heard) fdN_len fun fd Fu => ok__law_heard B D_closed_done D_least_to_pass D_queue_join D_queue_lag D_queue_sums D_stream_done Fu
    have D__law_just : Df P w K mg base (cAf [0, C_DoneError, C_BadNumber, C_BadRow, C_BadCase, C_TooMany]) "_law_just" 2 1 F__law_just := df_mk d__law_just bn__law_just (PySem.W.mg_of X G a__law_just) fdN_len fun fd Fu => ok__law_just B  Fu
    have R_TooMany : Rz P w K mg base (cAf [0, C_DoneError, C_BadNumber, C_BadRow, C_BadCase, C_TooMany]) "TooMany" 5 "limit" ini_TooMany 1 := by
      obtain ⟨fd, Fu⟩ := d_TooMany.fn
      exact ⟨⟨_, fd, _, o_TooMany, i_TooMany, t_TooMany, f_5_limit, ok_TooMany B  Fu si_TooMany, Fu.binds bi_TooMany⟩, B.m_TooMany⟩
    have D_queue_cells : Df P w K mg base (cAf [0, C_DoneError, C_BadNumber, C_BadRow, C_BadCase, C_TooMany]) "queue_cells" 2 3 F_queue_cells := df_mk d_queue_cells bn_queue_cells (PySem.W.mg_of X G a_queue_cells) fdN_len fun fd Fu => ok_queue_cells B R_TooMany Fu
    have D_queue_leavings : Df P w K mg base (cAf [0, C_DoneError, C_BadNumber, C_BadRow, C_BadCase, C_TooMany]) "queue_leavings" 2 1 F_queue_leavings := df_mk d_queue_leavings bn_queue_leavings (PySem.W.mg_of X G a_queue_leavings) fdN_len fun fd Fu => ok_queue_leavings B  Fu
    have D_queue_rows : Df P w K mg base (cAf [0, C_DoneError, C_BadNumber, C_BadRow, C_BadCase, C_TooMany]) "queue_rows" 1 9 F_queue_rows := df_mk d_queue_rows bn_queue_rows (PySem.W.mg_of X G a_queue_rows) fdN_len fun fd Fu => ok_queue_rows B D_is_int R_BadRow Fu
    have D_queue_table : Df P w K mg base (cAf [0, C_DoneError, C_BadNumber, C_BadRow, C_BadCase, C_TooMany]) "queue_table" 2 10 F_queue_table := df_mk d_queue_table bn_queue_table (PySem.W.mg_of X G a_queue_table) fdN_len fun fd Fu => ok_queue_table B D_queue_rows R_BadRow Fu
    have D_done_at : Df P w K mg base (cAf [0, C_DoneError, C_BadNumber, C_BadRow, C_BadCase, C_TooMany]) "done_at" 3 11 F_done_at := df_mk d_done_at bn_done_at (PySem.W.mg_of X G a_done_at) fdN_len fun fd Fu => ok_done_at B D_queue_cells D_queue_change D_queue_leavings D_queue_table D_queue_times Fu
    have D__law_closed_right : Df P w K mg base (cAf [0, C_DoneError, C_BadNumber, C_BadRow, C_BadCase, C_TooMany]) "_law_closed_right" 5 12 F__law_closed_right := df_mk d__law_closed_right bn__law_closed_right (PySem.W.mg_of X G a__law_closed_right) fdN_len fun fd Fu => ok__law_closed_right B D__law_ends D__law_heard D__law_just D_done_at Fu
    have D__law_joined_right : Df P w K mg base (cAf [0, C_DoneError, C_BadNumber, C_BadRow, C_BadCase, C_TooMany]) "_law_joined_right" 3 12 F__law_joined_right := df_mk d__law_joined_right bn__law_joined_right (PySem.W.mg_of X G a__law_joined_right) fdN_len fun fd Fu => ok__law_joined_right B D__law_ends D__law_heard D__law_just D_done_at Fu
    have D__law_pass_right : Df P w K mg base (cAf [0, C_DoneError, C_BadNumber, C_BadRow, C_BadCase, C_TooMany]) "_law_pass_right" 2 12 F__law_pass_right := df_mk d__law_pass_right bn__law_pass_right (PySem.W.mg_of X G a__law_pass_right) fdN_len fun fd Fu => ok__law_pass_right B D__law_ends D__law_heard D__law_just Fu
    have D__law_take : Df P w K mg base (cAf [0, C_DoneError, C_BadNumber, C_BadRow, C_BadCase, C_TooMany]) "_law_take" 2 1 F__law_take := df_mk d__law_take bn__law_take (PySem.W.mg_of X G a__law_take) fdN_len fun fd Fu => ok__law_take B  Fu
    have D__law_refused : Df P w K mg base (cAf [0, C_DoneError, C_BadNumber, C_BadRow, C_BadCase, C_TooMany]) "_law_refused" 3 12 F__law_refused := df_mk d__law_refused bn__law_refused (PySem.W.mg_of X G a__law_refused) fdN_len fun fd Fu => ok__law_refused B D__law_heard D__law_just D__law_take Fu
    have D__law_stream_right : Df P w K mg base (cAf [0, C_DoneError, C_BadNumber, C_BadRow, C_BadCase, C_TooMany]) "_law_stream_right" 3 12 F__law_stream_right := df_mk d__law_stream_right bn__law_stream_right (PySem.W.mg_of X G a__law_stream_right) fdN_len fun fd Fu => ok__law_stream_right B D__law_ends D__law_heard D__law_just Fu
    have D__law_tape : Df P w K mg base (cAf [0, C_DoneError, C_BadNumber, C_BadRow, C_BadCase, C_TooMany]) "_law_tape" 1 1 F__law_tape := df_mk d__law_tape bn__law_tape (PySem.W.mg_of X G a__law_tape) fdN_len fun fd Fu => ok__law_tape B  Fu
    have D__law_tied : Df P w K mg base (cAf [0, C_DoneError, C_BadNumber, C_BadRow, C_BadCase, C_TooMany]) "_law_tied" 1 2 F__law_tied := df_mk d__law_tied bn__law_tied (PySem.W.mg_of X G a__law_tied) fdN_len fun fd Fu => ok__law_tied B D__law_take Fu
    have D__law_z_row : Df P w K mg base (cAf [0, C_DoneError, C_BadNumber, C_BadRow, C_BadCase, C_TooMany]) "_law_z_row" 2 2 F__law_z_row := df_mk d__law_z_row bn__law_z_row (PySem.W.mg_of X G a__law_z_row) fdN_len fun fd Fu => ok__law_z_row B D__law_take Fu
    refine (ok_law B D__law_closed_right D__law_joined_right D__law_pass_right D__law_refused D__law_stream_right D__law_take D__law_tape D__law_tied D__law_z_row Fu).imp fun vs H Q E q => ?_
    obtain ⟨a, ns, rfl, hS, hl, q⟩ := q
    refine frp_spD (as := [.scr ns]) rfl (Same.refl H) (.none (.scr hS .nil)) ?_
    rw [law_true ns hl]
    intro v H' Z' L rv
    have rv : Dq K Z' v (.bool true) := rv
    cases rv
    exact q H'
end G82
namespace G82
open PySem L2 Mw
theorem e_take : F__law_take = F_take := rfl
theorem e_tape : F__law_tape = F_tape := rfl
theorem e_just : F__law_just = F_just := rfl
/-! ## small defs -/
theorem isint_i (n : Int) : F_is_int [.fro (.int n)] = .ok (.fro (.bool true)) none := rfl
def isI : D → Bool
  | .int _ => true
  | _ => false
theorem isint_d (d : D) (h : ∀ kvs, d ≠ .dict kvs) : F_is_int [.fro d] = .ok (.fro (.bool (isI d))) none := by
  cases d <;> first | rfl | exact absurd rfl (h _)
def iD (ns : List Int) : List D := ns.map PyData.int
theorem iD_len (ns : List Int) : (iD ns).length = ns.length := List.length_map _
theorem iD_get {ns : List Int} {i : Nat} (h : i < ns.length) : atI (iD ns) (i : Int) = some (.int ns[i]) := by
  rw [Mw.atI_nat (by omega) (by rw [iD_len]; omega), show ((i : Int)).toNat = i by omega]
  unfold iD
  rw [List.getElem?_map, List.getElem?_eq_getElem h]; rfl
/-- lengths of groups: ints from 1 on -/
theorem lengths_ok {zs : List Int} (hn : zs ≠ []) (h : ∀ z ∈ zs, 1 ≤ z) (hz : zs.length ≤ 1000) : F_queue_lengths [.fro (.tuple (iD zs))] = .ok (.fro (.tuple (iD zs))) none := by
  refine fd_post (R := fun r => r = .ok (.fro (.tuple (iD zs))) none) rfl ?_
  have hl : decide (((iD zs).length : Int) = 0) = false := decide_eq_false (by rw [iD_len]; have := List.length_pos_iff.mpr hn; omega)
  have hr : rOk ((iD zs).length : Int) = true := rOk_small (by omega) (by rw [iD_len]; omega)
  have hlr : (rngL 0 ((iD zs).length : Int).toNat).length = zs.length := by rw [rngL_len, iD_len]; omega
  simp_arith [d_queue_lengths, hl, hr]
  refine for_nx (fun i g => ∃ o, g = [.fro (.tuple (iD zs)), opn o]) ⟨none, rfl⟩ ?_ ?_
  · rintro i d g hi ⟨o, rfl⟩
    obtain ⟨rfl, hlt⟩ := rngL_at hi
    have hi2 : i < zs.length := by rw [iD_len] at hlt; omega
    have hx := iD_get hi2
    have h1 : decide (zs[i] < 1) = false := decide_eq_false (by have := h _ (List.getElem_mem hi2); omega)
    simp_arith [hx, isint_i, h1]
    exact ⟨some _, rfl⟩
  · rintro g ⟨o, rfl⟩
    simp_arith []
    exact ⟨_, rfl, rfl⟩
theorem lengths_okL {zs : List Int} (hn : zs ≠ []) (h : ∀ z ∈ zs, 1 ≤ z) (hz : zs.length ≤ 1000) : F_queue_lengths [.fro (.list (iD zs))] = .ok (.fro (.tuple (iD zs))) none := by
  refine fd_post (R := fun r => r = .ok (.fro (.tuple (iD zs))) none) rfl ?_
  have hl : decide (((iD zs).length : Int) = 0) = false := decide_eq_false (by rw [iD_len]; have := List.length_pos_iff.mpr hn; omega)
  have hr : rOk ((iD zs).length : Int) = true := rOk_small (by omega) (by rw [iD_len]; omega)
  have hlr : (rngL 0 ((iD zs).length : Int).toNat).length = zs.length := by rw [rngL_len, iD_len]; omega
  simp_arith [d_queue_lengths, hl, hr]
  refine for_nx (fun i g => ∃ o, g = [.fro (.list (iD zs)), opn o]) ⟨none, rfl⟩ ?_ ?_
  · rintro i d g hi ⟨o, rfl⟩
    obtain ⟨rfl, hlt⟩ := rngL_at hi
    have hi2 : i < zs.length := by rw [iD_len] at hlt; omega
    have hx := iD_get hi2
    have h1 : decide (zs[i] < 1) = false := decide_eq_false (by have := h _ (List.getElem_mem hi2); omega)
    simp_arith [hx, isint_i, h1]
    exact ⟨some _, rfl⟩
  · rintro g ⟨o, rfl⟩
    simp_arith []
    exact ⟨_, rfl, rfl⟩
/-! ## things made tuples through -/
mutual
def tpD : D → D
  | .list ds => .tuple (tpA ds)
  | .tuple ds => .tuple (tpA ds)
  | d => d
def tpA : List D → List D
  | [] => []
  | d :: ds => tpD d :: tpA ds
end
mutual
def okD : Nat → D → Bool
  | 0, _ => false
  | n + 1, .list ds => decide (ds.length ≤ 1000) && okA n ds
  | n + 1, .tuple ds => decide (ds.length ≤ 1000) && okA n ds
  | _ + 1, .dict _ => false
  | _ + 1, _ => true
def okA : Nat → List D → Bool
  | _, [] => true
  | n, d :: ds => okD n d && okA n ds
end
theorem okA_get {n : Nat} : ∀ {ds : List D} {i : Nat} {d : D}, okA n ds = true → ds[i]? = some d → okD n d = true ∧ (tpA ds)[i]? = some (tpD d)
  | [], i, d, _, h => by simp at h
  | x :: ds, 0, d, h, e => by
    rw [okA, Bool.and_eq_true] at h
    have : x = d := by simpa using e
    subst this
    exact ⟨h.1, by simp [tpA]⟩
  | x :: ds, i + 1, d, h, e => by
    rw [okA, Bool.and_eq_true] at h
    have := okA_get (i := i) (d := d) h.2 (by simpa using e)
    exact ⟨this.1, by simpa [tpA] using this.2⟩
theorem tpA_len : ∀ ds : List D, (tpA ds).length = ds.length
  | [] => rfl
  | d :: ds => by rw [tpA, List.length_cons, List.length_cons, tpA_len]
theorem tupled_in {n : Nat} {x : D} {ds : List D} {Q : List D → List Sl → Prop} (ih : ∀ d, okD n d = true → F_tupled n [.fro d] = .ok (.fro (tpD d)) none) (hl : ds.length ≤ 1000) (h : okA n ds = true)
    (q : Q (tpA ds) [.fro x, .un]) : Post Q (fun _ _ _ _ => False) (lcL [1] (.one 1) (ret true) (callE (F_tupled n) (argsCons (vr 1) argsNil)) [] ds [.fro x, .un]) := by
  refine lc_wp (fun i acc g => g = [.fro x, .un] ∧ acc = (tpA ds).take i ∧ i ≤ ds.length) ⟨rfl, rfl, Nat.zero_le _⟩ ?_ ?_
  · rintro i d acc g hi ⟨rfl, rfl, hle⟩
    obtain ⟨h1, h2⟩ := okA_get h hi
    have hlt := (List.getElem?_eq_some_iff.mp hi).1
    have hs : ((tpA ds).take i).length < SZ := by
      have : SZ = 16777216 := rfl
      rw [List.length_take]; omega
    simp_arith [ih d h1, hs]
    refine ⟨trivial, trivial, ?_, hlt⟩
    obtain ⟨h3, h4⟩ := List.getElem?_eq_some_iff.mp h2
    rw [← h4, List.take_append_getElem]
  · rintro acc g ⟨rfl, rfl, hle⟩
    rw [List.take_of_length_le (by rw [tpA_len]; exact Nat.le_refl _)]
    exact q
theorem tupled_ok : ∀ (n : Nat) (d : D), okD n d = true → F_tupled n [.fro d] = .ok (.fro (tpD d)) none
  | 0, d, h => by simp [okD] at h
  | n + 1, d, h => by
    refine fd_post (R := fun r => r = .ok (.fro (tpD d)) none) rfl ?_
    cases d with
    | dict _ => simp [okD] at h
    | none => simp_arith [d_tupled]; exact ⟨_, rfl, rfl⟩
    | bool b => simp_arith [d_tupled]; exact ⟨_, rfl, rfl⟩
    | int b => simp_arith [d_tupled]; exact ⟨_, rfl, rfl⟩
    | str b => simp_arith [d_tupled]; exact ⟨_, rfl, rfl⟩
    | list ds =>
      rw [okD, Bool.and_eq_true] at h
      simp_arith [d_tupled]
      refine tupled_in (tupled_ok n) (of_decide_eq_true h.1) h.2 ?_
      simp_arith []
      exact ⟨_, rfl, by rw [tpD]⟩
    | tuple ds =>
      rw [okD, Bool.and_eq_true] at h
      simp_arith [d_tupled]
      refine tupled_in (tupled_ok n) (of_decide_eq_true h.1) h.2 ?_
      simp_arith []
      exact ⟨_, rfl, by rw [tpD]⟩
theorem ini_num {d : D} (h : okD 6 d = true) : iniD ini_BadNumber d = some (tpD d) := by
  have e := tupled_ok 6 d h
  simp_arith! [iniD, ini_BadNumber, e]
theorem ini_row {d : D} (h : okD 6 d = true) : iniD ini_BadRow d = some (tpD d) := by
  have e := tupled_ok 6 d h
  simp_arith! [iniD, ini_BadRow, e]
theorem num_i (n : Int) : iniD ini_BadNumber (.int n) = some (.int n) := ini_num (d := .int n) rfl
theorem row_i (n : Int) : iniD ini_BadRow (.int n) = some (.int n) := ini_row (d := .int n) rfl
/-- what is no length of a group -/
def badW : D → Bool
  | .int n => decide (n < 1)
  | .dict _ => false
  | _ => true
theorem lengths_bad {zs : List Int} {w : D} {r : List D} (h : ∀ z ∈ zs, 1 ≤ z) (hw : badW w = true) (hz : zs.length + r.length ≤ 1000) : F_queue_lengths [.fro (.tuple (iD zs ++ w :: r))] = .exn 2 "at" (.int zs.length) none := by
  refine fd_post (R := fun x => x = .exn 2 "at" (.int zs.length) none) rfl ?_
  have hlen : (iD zs ++ w :: r).length = zs.length + (r.length + 1) := by rw [List.length_append, iD_len, List.length_cons]
  have hl : decide (((iD zs ++ w :: r).length : Int) = 0) = false := decide_eq_false (by rw [hlen]; omega)
  have hr : rOk ((iD zs ++ w :: r).length : Int) = true := rOk_small (by omega) (by rw [hlen]; omega)
  have hlr : (rngL 0 ((iD zs ++ w :: r).length : Int).toNat).length = zs.length + (r.length + 1) := by rw [rngL_len, hlen]; omega
  simp_arith [d_queue_lengths, hl, hr]
  refine for_wp (fun i g => i ≤ zs.length ∧ ∃ o, g = [.fro (.tuple (iD zs ++ w :: r)), opn o]) ⟨Nat.zero_le _, none, rfl⟩ ?_ ?_
  · rintro i d g hi ⟨hle, o, rfl⟩
    obtain ⟨rfl, hlt⟩ := rngL_at hi
    by_cases hi2 : i < zs.length
    · have hx : atI (iD zs ++ w :: r) (i : Int) = some (.int zs[i]) := by
        rw [Mw.atI_nat (by omega) (by rw [hlen]; omega), show ((i : Int)).toNat = i by omega, List.getElem?_append_left (by rw [iD_len]; exact hi2)]
        unfold iD
        rw [List.getElem?_map, List.getElem?_eq_getElem hi2]; rfl
      have h1 : decide (zs[i] < 1) = false := decide_eq_false (by have := h _ (List.getElem_mem hi2); omega)
      simp_arith [hx, isint_i, h1]
      exact ⟨hi2, some _, rfl⟩
    · have ei : i = zs.length := by omega
      subst ei
      have hx : atI (iD zs ++ w :: r) (zs.length : Int) = some w := by
        rw [Mw.atI_nat (by omega) (by rw [hlen]; omega), show ((zs.length : Int)).toNat = zs.length by omega, List.getElem?_append_right (by rw [iD_len]; exact Nat.le_refl _), iD_len, Nat.sub_self]; rfl
      cases w with
      | int n =>
        have h1 : decide (n < 1) = true := hw
        simp_arith [hx, isint_i, h1, num_i]
      | dict _ => cases hw
      | none =>
        have hi := isint_d .none (fun _ z => nomatch z)
        simp_arith [hx, hi, isI, num_i]
      | bool b =>
        have hi := isint_d (.bool b) (fun _ z => nomatch z)
        simp_arith [hx, hi, isI, num_i]
      | str z =>
        have hi := isint_d (.str z) (fun _ z => nomatch z)
        simp_arith [hx, hi, isI, num_i]
      | list ds =>
        have hi := isint_d (.list ds) (fun _ z => nomatch z)
        simp_arith [hx, hi, isI, num_i]
      | tuple ds =>
        have hi := isint_d (.tuple ds) (fun _ z => nomatch z)
        simp_arith [hx, hi, isI, num_i]
  · rintro g ⟨hle, _⟩
    omega
theorem lengths_none : F_queue_lengths [.fro .none] = .exn 2 "at" (.int (-1)) none := by
  refine fd_post (R := fun x => x = .exn 2 "at" (.int (-1)) none) rfl ?_
  simp_arith [d_queue_lengths, num_i]
theorem lengths_str (x : Str) : F_queue_lengths [.fro (.str x)] = .exn 2 "at" (.int (-1)) none := by
  refine fd_post (R := fun x => x = .exn 2 "at" (.int (-1)) none) rfl ?_
  simp_arith [d_queue_lengths, num_i]
theorem lengths_nil : F_queue_lengths [.fro (.tuple [])] = .exn 2 "at" (.int (-1)) none := by
  refine fd_post (R := fun x => x = .exn 2 "at" (.int (-1)) none) rfl ?_
  have h0 : decide (((0 : Nat) : Int) = 0) = true := rfl
  simp_arith [d_queue_lengths, num_i, h0]
/-- the done hours of a queue of one row: S its sum, M its greatest -/
def due (S M : Int) (ts : List Int) : Nat → Int
  | 0 => ts.getD 0 0 + S
  | i + 1 => if due S M ts i + M > ts.getD (i + 1) 0 + S then due S M ts i + M else ts.getD (i + 1) 0 + S
def dues (S M : Int) (ts : List Int) (n : Nat) : List Int := (List.range n).map (due S M ts)
theorem dues_len (S M : Int) (ts : List Int) (n : Nat) : (dues S M ts n).length = n := by unfold dues; rw [List.length_map, List.length_range]
theorem dues_succ (S M : Int) (ts : List Int) (n : Nat) : dues S M ts (n + 1) = dues S M ts n ++ [due S M ts n] := by
  unfold dues
  rw [List.range_succ, List.map_append]; rfl
theorem iD_app (a b : List Int) : iD (a ++ b) = iD a ++ iD b := List.map_append
theorem atI_last (ns : List Int) (x : Int) : atI (iD (ns ++ [x])) (-1) = some (.int x) := by
  unfold atI ixN
  rw [if_neg (by decide), if_pos (by rw [iD_len, List.length_append]; simp; omega), iD_len, List.length_append]
  have e : ((-1 : Int) + ((ns.length + [x].length : Nat) : Int)).toNat = ns.length := by simp; omega
  show (iD (ns ++ [x]))[((-1 : Int) + ((ns.length + [x].length : Nat) : Int)).toNat]? = _
  rw [e, iD_app, List.getElem?_append_right (by rw [iD_len]; exact Nat.le_refl _), iD_len, Nat.sub_self]; rfl
theorem dues_ok {S M : Int} {ts : List Int} (hz : ts.length ≤ 1000) : F_queue_dues [.fro (.tuple (iD ts)), .fro (.int S), .fro (.int M)] = .ok (.own (iD (dues S M ts ts.length))) none := by
  refine fd_post (R := fun x => x = .ok (.own (iD (dues S M ts ts.length))) none) rfl ?_
  have h0 : 0 ≤ SZ := Nat.zero_le _
  simp_arith [d_queue_dues, h0]
  refine for_nx (fun i g => ∃ o4 o5, g = [.fro (.tuple (iD ts)), .fro (.int S), .fro (.int M), .own (iD (dues S M ts i)), opn o4, opn o5]) ⟨none, none, rfl⟩ ?_ ?_
  · rintro i d g hi ⟨o4, o5, rfl⟩
    have hlt : i < ts.length := by have := (List.getElem?_eq_some_iff.mp hi).1; rwa [iD_len] at this
    obtain rfl : d = .int (ts.getD i 0) := by
      unfold iD at hi
      rw [List.getElem?_map, List.getElem?_eq_getElem hlt] at hi
      rw [List.getD_eq_getElem?_getD, List.getElem?_eq_getElem hlt]
      exact (Option.some.inj hi).symm
    have hs : (iD (dues S M ts i)).length < SZ := by
      have : SZ = 16777216 := rfl
      rw [iD_len, dues_len]; omega
    cases i with
    | zero =>
      have hl : decide ((0 : Int) < ((iD (dues S M ts 0)).length : Int)) = false := rfl
      simp_arith [hl, hs]
      exact ⟨some _, some _, rfl⟩
    | succ k =>
      have hl : decide ((0 : Int) < ((iD (dues S M ts (k + 1))).length : Int)) = true := decide_eq_true (by rw [iD_len, dues_len]; omega)
      have hx : atI (iD (dues S M ts (k + 1))) (-1) = some (.int (due S M ts k)) := by rw [dues_succ]; exact atI_last _ _
      simp_arith [hl, hs, hx]
      by_cases c : ts.getD (k + 1) 0 + S < due S M ts k + M
      · have e : iD (dues S M ts (k + 1)) ++ [PyData.int (due S M ts k + M)] = iD (dues S M ts (k + 1 + 1)) := by
          rw [dues_succ S M ts (k + 1), iD_app, show due S M ts (k + 1) = due S M ts k + M from if_pos c]; rfl
        rw [decide_eq_true c]
        simp_arith [hl, hs, hx]
        rw [e]
        exact ⟨some _, some _, rfl⟩
      · have e : iD (dues S M ts (k + 1)) ++ [PyData.int (ts.getD (k + 1) 0 + S)] = iD (dues S M ts (k + 1 + 1)) := by
          rw [dues_succ S M ts (k + 1), iD_app, show due S M ts (k + 1) = ts.getD (k + 1) 0 + S from if_neg c]; rfl
        rw [decide_eq_false c]
        simp_arith [hl, hs, hx]
        rw [e]
        exact ⟨some _, some _, rfl⟩
  · rintro g ⟨o4, o5, rfl⟩
    simp_arith []
    rw [iD_len]
    exact ⟨_, rfl, rfl⟩
theorem intsOf_i : ∀ zs : List Int, intsOf (iD zs) = some zs
  | [] => rfl
  | z :: zs => by
    have := intsOf_i zs
    show (intsOf (iD zs)).map (z :: ·) = _
    rw [this]; rfl
theorem sumF_i (zs : List Int) : sumF [.list (iD zs)] = some (.val (.int zs.sum)) := by
  unfold sumF
  simp only
  rw [intsOf_i]; rfl
theorem maxF_i {zs : List Int} (hn : zs ≠ []) : maxLF [.list (iD zs)] = some (.val (.int (maxL zs))) := by
  unfold maxLF
  simp only
  rw [intsOf_i]
  cases zs with
  | nil => exact absurd rfl hn
  | cons z zs => rfl
/-- never falling -/
def Up (ts : List Int) : Prop := ∀ i, i + 1 < ts.length → ts.getD i 0 ≤ ts.getD (i + 1) 0
theorem times_ok {ts : List Int} (hn : ts ≠ []) (h : Up ts) (hz : ts.length ≤ 1000) : F_queue_times [.fro (.tuple (iD ts))] = .ok (.fro (.tuple (iD ts))) none := by
  refine fd_post (R := fun r => r = .ok (.fro (.tuple (iD ts))) none) rfl ?_
  have hp := List.length_pos_iff.mpr hn
  have hl : decide (((iD ts).length : Int) = 0) = false := decide_eq_false (by rw [iD_len]; omega)
  have hr : rOk ((iD ts).length : Int) = true := rOk_small (by omega) (by rw [iD_len]; omega)
  have hlr : (rngL 0 ((iD ts).length : Int).toNat).length = ts.length := by rw [rngL_len, iD_len]; omega
  simp_arith [d_queue_times, hl, hr]
  refine for_nx (fun i g => ∃ o, g = [.fro (.tuple (iD ts)), opn o]) ⟨none, rfl⟩ ?_ ?_
  · rintro i d g hi ⟨o, rfl⟩
    obtain ⟨rfl, hlt⟩ := rngL_at hi
    have hi2 : i < ts.length := by rw [iD_len] at hlt; omega
    have hx := iD_get hi2
    cases i with
    | zero =>
      have h1 : decide ((0 : Int) < ((0 : Nat) : Int)) = false := rfl
      simp_arith [hx, isint_i, h1]
      exact ⟨some _, rfl⟩
    | succ k =>
      have hx2 : atI (iD ts) (((k + 1 : Nat) : Int) - 1) = some (.int ts[k]) := by
        rw [show (((k + 1 : Nat) : Int) - 1) = (k : Int) by omega]; exact iD_get (by omega)
      have h1 : decide ((0 : Int) < ((k + 1 : Nat) : Int)) = true := decide_eq_true (by omega)
      have h2 : decide (ts[k + 1] < ts[k]) = false := decide_eq_false (by
        have := h k hi2
        rw [List.getD_eq_getElem?_getD, List.getD_eq_getElem?_getD, List.getElem?_eq_getElem hi2, List.getElem?_eq_getElem (by omega : k < ts.length)] at this
        simp at this
        omega)
      simp_arith [hx, hx2, isint_i, h1, h2]
      exact ⟨some _, rfl⟩
  · rintro g ⟨o, rfl⟩
    simp_arith []
    exact ⟨_, rfl, rfl⟩
theorem change_ok {ds : List D} {i : Int} (h1 : 1 ≤ i) (h2 : i ≤ ds.length) : F_queue_change [.fro (.tuple ds), .fro (.int i)] = .ok (.fro (.int i)) none := by
  refine fd_post (R := fun r => r = .ok (.fro (.int i)) none) rfl ?_
  simp_arith [d_queue_change, isint_i, decide_eq_true h1, decide_eq_true h2]
  exact ⟨_, rfl, rfl⟩
theorem closed_ok {ts zs : List Int} {i : Nat} (hn : ts ≠ []) (h : Up ts) (hz : ts.length ≤ 1000) (kn : zs ≠ []) (k1 : ∀ z ∈ zs, 1 ≤ z) (kz : zs.length ≤ 1000) (hi : i < ts.length) :
    F_closed_done [.fro (.tuple (iD ts)), .fro (.tuple (iD zs)), .fro (.int (i + 1 : Nat))] = .ok (.fro (.int (due zs.sum (maxL zs) ts i))) none := by
  refine fd_post (R := fun r => r = .ok (.fro (.int (due zs.sum (maxL zs) ts i))) none) rfl ?_
  have hc := change_ok (ds := iD ts) (i := ((i + 1 : Nat) : Int)) (by omega) (by rw [iD_len]; omega)
  have hx : atI (iD (dues zs.sum (maxL zs) ts ts.length)) (((i + 1 : Nat) : Int) - 1) = some (.int (due zs.sum (maxL zs) ts i)) := by
    rw [show (((i + 1 : Nat) : Int) - 1) = (i : Int) by omega, iD_get (by rw [dues_len]; exact hi)]
    unfold dues
    rw [List.getElem_map, List.getElem_range]
  simp_arith [d_closed_done, times_ok hn h hz, lengths_ok kn k1 kz, hc, dues_ok hz, sumF_i, maxF_i kn, hx]
  exact ⟨_, rfl, rfl⟩
theorem sums_ok {zs : List Int} (kn : zs ≠ []) (k1 : ∀ z ∈ zs, 1 ≤ z) (kz : zs.length ≤ 1000) : F_queue_sums [.fro (.tuple (iD zs))] = .ok (.fro (.tuple [.int zs.sum, .int (maxL zs)])) none := by
  refine fd_post (R := fun r => r = .ok (.fro (.tuple [.int zs.sum, .int (maxL zs)])) none) rfl ?_
  have h2 : 2 ≤ SZ := by decide
  simp_arith [d_queue_sums, lengths_ok kn k1 kz, sumF_i, maxF_i kn, h2]
  exact ⟨_, rfl, rfl⟩
theorem stream_ok {zs : List Int} {d i : Int} (kn : zs ≠ []) (k1 : ∀ z ∈ zs, 1 ≤ z) (kz : zs.length ≤ 1000) (hd : 0 ≤ d) (hi : 0 ≤ i) (hm : mulOk i (if maxL zs > d then maxL zs else d) = true) :
    F_stream_done [.fro (.tuple (iD zs)), .fro (.int d), .fro (.int i)] = .ok (.fro (.int (zs.sum + i * (if maxL zs > d then maxL zs else d)))) none := by
  refine fd_post (R := fun r => r = .ok (.fro (.int (zs.sum + i * (if maxL zs > d then maxL zs else d)))) none) rfl ?_
  have h1 : decide (d < 0) = false := decide_eq_false (by omega)
  have h2 : decide (i < 0) = false := decide_eq_false (by omega)
  simp_arith [d_stream_done, lengths_ok kn k1 kz, sumF_i, maxF_i kn, isint_i, h1, h2, hm]
  exact ⟨_, rfl, rfl⟩
theorem lag_ok {zs : List Int} {d : Int} (kn : zs ≠ []) (k1 : ∀ z ∈ zs, 1 ≤ z) (kz : zs.length ≤ 1000) (hd : 1 ≤ d) :
    F_queue_lag [.fro (.tuple (iD zs)), .fro (.int d)] = .ok (.fro (if maxL zs ≤ d then .int zs.sum else .str "endless")) none := by
  refine fd_post (R := fun r => r = .ok (.fro (if maxL zs ≤ d then .int zs.sum else .str "endless")) none) rfl ?_
  have h1 : decide (d < 1) = false := decide_eq_false (by omega)
  by_cases c : maxL zs ≤ d
  · simp_arith [d_queue_lag, lengths_ok kn k1 kz, sumF_i, maxF_i kn, isint_i, h1, decide_eq_true c]
    exact ⟨_, rfl, by rw [if_pos c]⟩
  · simp_arith [d_queue_lag, lengths_ok kn k1 kz, sumF_i, maxF_i kn, isint_i, h1, decide_eq_false c]
    exact ⟨_, rfl, by rw [if_neg c]⟩
/-! ## what is heard -/
theorem sb_20 : sbT 2 0 = true := rfl
theorem sb_21 : sbT 2 1 = true := rfl
theorem sb_22 : sbT 2 2 = true := rfl
theorem sb_23 : sbT 2 3 = false := rfl
theorem sb_24 : sbT 2 4 = false := rfl
theorem sb_25 : sbT 2 5 = false := rfl
theorem sb_30 : sbT 3 0 = true := rfl
theorem sb_31 : sbT 3 1 = true := rfl
theorem sb_32 : sbT 3 2 = false := rfl
theorem sb_33 : sbT 3 3 = true := rfl
theorem sb_34 : sbT 3 4 = false := rfl
theorem sb_35 : sbT 3 5 = false := rfl
theorem heard0 {a b c v : D} (h : F_closed_done [.fro a, .fro b, .fro c] = .ok (.fro v) none) : F__law_heard [.fro (.int 0), .fro a, .fro b, .fro c] = .ok (.fro (.tuple [.str "told", v])) none := by
  refine fd_post (R := fun r => r = .ok (.fro (.tuple [.str "told", v])) none) rfl ?_
  have h1 : 1 ≤ SZ := by decide
  have h2 : 2 ≤ SZ := by decide
  simp_arith [d__law_heard, h, h1, h2]
  exact ⟨_, rfl, rfl⟩
theorem heardN0 {a b c v : D} (h : F_closed_done [.fro a, .fro b, .fro c] = .exn 2 "at" v none) : F__law_heard [.fro (.int 0), .fro a, .fro b, .fro c] = .ok (.fro (.tuple [.str "number", .bool true, .bool false, v])) none := by
  refine fd_post (R := fun r => r = .ok (.fro (.tuple [.str "number", .bool true, .bool false, v])) none) rfl ?_
  have h1 : 1 ≤ SZ := by decide
  have h4 : 4 ≤ SZ := by decide
  have hk : 0 < 2 ∧ 2 < 6 := by decide
  simp_arith [d__law_heard, h, h1, h4, sb_20, sb_21, sb_22, sb_23, sb_24, sb_25, sb_30, sb_31, sb_32, sb_33, sb_34, sb_35]
  exact ⟨_, rfl, rfl⟩
theorem heard1 {a b c v : D} (h : F_stream_done [.fro a, .fro b, .fro c] = .ok (.fro v) none) : F__law_heard [.fro (.int 1), .fro a, .fro b, .fro c] = .ok (.fro (.tuple [.str "told", v])) none := by
  refine fd_post (R := fun r => r = .ok (.fro (.tuple [.str "told", v])) none) rfl ?_
  have h1 : 1 ≤ SZ := by decide
  have h2 : 2 ≤ SZ := by decide
  simp_arith [d__law_heard, h, h1, h2]
  exact ⟨_, rfl, rfl⟩
theorem heardN1 {a b c v : D} (h : F_stream_done [.fro a, .fro b, .fro c] = .exn 2 "at" v none) : F__law_heard [.fro (.int 1), .fro a, .fro b, .fro c] = .ok (.fro (.tuple [.str "number", .bool true, .bool false, v])) none := by
  refine fd_post (R := fun r => r = .ok (.fro (.tuple [.str "number", .bool true, .bool false, v])) none) rfl ?_
  have h1 : 1 ≤ SZ := by decide
  have h4 : 4 ≤ SZ := by decide
  have hk : 0 < 2 ∧ 2 < 6 := by decide
  simp_arith [d__law_heard, h, h1, h4, sb_20, sb_21, sb_22, sb_23, sb_24, sb_25, sb_30, sb_31, sb_32, sb_33, sb_34, sb_35]
  exact ⟨_, rfl, rfl⟩
theorem heard2 {a b c v : D} (h : F_least_to_pass [.fro a, .fro b] = .ok (.fro v) none) : F__law_heard [.fro (.int 2), .fro a, .fro b, .fro c] = .ok (.fro (.tuple [.str "told", v])) none := by
  refine fd_post (R := fun r => r = .ok (.fro (.tuple [.str "told", v])) none) rfl ?_
  have h1 : 1 ≤ SZ := by decide
  have h2 : 2 ≤ SZ := by decide
  simp_arith [d__law_heard, h, h1, h2]
  exact ⟨_, rfl, rfl⟩
theorem heardN2 {a b c v : D} (h : F_least_to_pass [.fro a, .fro b] = .exn 2 "at" v none) : F__law_heard [.fro (.int 2), .fro a, .fro b, .fro c] = .ok (.fro (.tuple [.str "number", .bool true, .bool false, v])) none := by
  refine fd_post (R := fun r => r = .ok (.fro (.tuple [.str "number", .bool true, .bool false, v])) none) rfl ?_
  have h1 : 1 ≤ SZ := by decide
  have h4 : 4 ≤ SZ := by decide
  have hk : 0 < 2 ∧ 2 < 6 := by decide
  simp_arith [d__law_heard, h, h1, h4, sb_20, sb_21, sb_22, sb_23, sb_24, sb_25, sb_30, sb_31, sb_32, sb_33, sb_34, sb_35]
  exact ⟨_, rfl, rfl⟩
theorem heard3 {a b c v : D} (h : F_queue_lag [.fro a, .fro b] = .ok (.fro v) none) : F__law_heard [.fro (.int 3), .fro a, .fro b, .fro c] = .ok (.fro (.tuple [.str "told", v])) none := by
  refine fd_post (R := fun r => r = .ok (.fro (.tuple [.str "told", v])) none) rfl ?_
  have h1 : 1 ≤ SZ := by decide
  have h2 : 2 ≤ SZ := by decide
  simp_arith [d__law_heard, h, h1, h2]
  exact ⟨_, rfl, rfl⟩
theorem heardN3 {a b c v : D} (h : F_queue_lag [.fro a, .fro b] = .exn 2 "at" v none) : F__law_heard [.fro (.int 3), .fro a, .fro b, .fro c] = .ok (.fro (.tuple [.str "number", .bool true, .bool false, v])) none := by
  refine fd_post (R := fun r => r = .ok (.fro (.tuple [.str "number", .bool true, .bool false, v])) none) rfl ?_
  have h1 : 1 ≤ SZ := by decide
  have h4 : 4 ≤ SZ := by decide
  have hk : 0 < 2 ∧ 2 < 6 := by decide
  simp_arith [d__law_heard, h, h1, h4, sb_20, sb_21, sb_22, sb_23, sb_24, sb_25, sb_30, sb_31, sb_32, sb_33, sb_34, sb_35]
  exact ⟨_, rfl, rfl⟩
theorem heard4 {a b c v : D} (h : F_queue_join [.fro a, .fro b] = .ok (.fro v) none) : F__law_heard [.fro (.int 4), .fro a, .fro b, .fro c] = .ok (.fro (.tuple [.str "told", v])) none := by
  refine fd_post (R := fun r => r = .ok (.fro (.tuple [.str "told", v])) none) rfl ?_
  have h1 : 1 ≤ SZ := by decide
  have h2 : 2 ≤ SZ := by decide
  simp_arith [d__law_heard, h, h1, h2]
  exact ⟨_, rfl, rfl⟩
theorem heardN4 {a b c v : D} (h : F_queue_join [.fro a, .fro b] = .exn 2 "at" v none) : F__law_heard [.fro (.int 4), .fro a, .fro b, .fro c] = .ok (.fro (.tuple [.str "number", .bool true, .bool false, v])) none := by
  refine fd_post (R := fun r => r = .ok (.fro (.tuple [.str "number", .bool true, .bool false, v])) none) rfl ?_
  have h1 : 1 ≤ SZ := by decide
  have h4 : 4 ≤ SZ := by decide
  have hk : 0 < 2 ∧ 2 < 6 := by decide
  simp_arith [d__law_heard, h, h1, h4, sb_20, sb_21, sb_22, sb_23, sb_24, sb_25, sb_30, sb_31, sb_32, sb_33, sb_34, sb_35]
  exact ⟨_, rfl, rfl⟩
theorem heard5 {a b c v : D} (h : F_queue_sums [.fro a] = .ok (.fro v) none) : F__law_heard [.fro (.int 5), .fro a, .fro b, .fro c] = .ok (.fro (.tuple [.str "told", v])) none := by
  refine fd_post (R := fun r => r = .ok (.fro (.tuple [.str "told", v])) none) rfl ?_
  have h1 : 1 ≤ SZ := by decide
  have h2 : 2 ≤ SZ := by decide
  simp_arith [d__law_heard, h, h1, h2]
  exact ⟨_, rfl, rfl⟩
theorem heardN5 {a b c v : D} (h : F_queue_sums [.fro a] = .exn 2 "at" v none) : F__law_heard [.fro (.int 5), .fro a, .fro b, .fro c] = .ok (.fro (.tuple [.str "number", .bool true, .bool false, v])) none := by
  refine fd_post (R := fun r => r = .ok (.fro (.tuple [.str "number", .bool true, .bool false, v])) none) rfl ?_
  have h1 : 1 ≤ SZ := by decide
  have h4 : 4 ≤ SZ := by decide
  have hk : 0 < 2 ∧ 2 < 6 := by decide
  simp_arith [d__law_heard, h, h1, h4, sb_20, sb_21, sb_22, sb_23, sb_24, sb_25, sb_30, sb_31, sb_32, sb_33, sb_34, sb_35]
  exact ⟨_, rfl, rfl⟩
theorem heardR0 {a b c v : D} (h : F_closed_done [.fro a, .fro b, .fro c] = .exn 3 "at" v none) : F__law_heard [.fro (.int 0), .fro a, .fro b, .fro c] = .ok (.fro (.tuple [.str "row", .bool true, .bool false, v])) none := by
  refine fd_post (R := fun r => r = .ok (.fro (.tuple [.str "row", .bool true, .bool false, v])) none) rfl ?_
  have h1 : 1 ≤ SZ := by decide
  have h4 : 4 ≤ SZ := by decide
  simp_arith [d__law_heard, h, h1, h4, sb_20, sb_21, sb_22, sb_23, sb_24, sb_25, sb_30, sb_31, sb_32, sb_33, sb_34, sb_35]
  exact ⟨_, rfl, rfl⟩
/-! ## the law's own table -/
def pmax (i j : Int) : Int := if j > i then j else i
def nowF (b : Bool) (A z : Nat → Int) (t : Int) : Nat → Int
  | 0 => t
  | g + 1 => (if b = true then pmax (nowF b A z t g) (A g) else nowF b A z t g) + z g
def N (t z : Nat → Int) : Nat → Nat → Int
  | 0 => nowF false (fun _ => 0) z (t 0)
  | k + 1 => nowF true (fun g => N t z k (g + 1)) z (t (k + 1))
def colL (f : Nat → Int) (n : Nat) : List Int := (List.range n).map fun g => f (g + 1)
theorem colL_len (f : Nat → Int) (n : Nat) : (colL f n).length = n := by unfold colL; rw [List.length_map, List.length_range]
theorem colL_succ (f : Nat → Int) (n : Nat) : colL f (n + 1) = colL f n ++ [f (n + 1)] := by
  unfold colL
  rw [List.range_succ, List.map_append]; rfl
theorem colL_get {f : Nat → Int} {n g : Nat} (h : g < n) : atI (iD (colL f n)) (g : Int) = some (.int (f (g + 1))) := by
  rw [iD_get (by rw [colL_len]; exact h)]
  unfold colL
  rw [List.getElem_map, List.getElem_range]
theorem ends_in {T R : List D} {zs E A : List Int} {k : Nat} {b : Bool} {Af : Nat → Int} {t0 : Int} {o7 : Option D} {Q : Fl → List Sl → Prop} {ex : Nat → Str → D → List Sl → Prop}
    (hb : decide ((0 : Int) < (k : Int)) = b) (hR : atI R (k : Int) = some (.tuple (iD zs))) (hA : b = true → ∀ g, g < zs.length → atI (iD A) (g : Int) = some (.int (Af g))) (hz : zs.length ≤ 1000)
    (q : ∀ o7, Q .nx [.fro (.tuple T), .fro (.tuple R), .own (iD A), .own (iD E), .fro (.int k), .fro (.int (nowF b Af (fun g => zs.getD g 0) t0 zs.length)), .own (iD (colL (nowF b Af (fun g => zs.getD g 0) t0) zs.length)), opn o7]) :
    Post Q ex (forL (.one 7) (seqS (ifS (tstE (op2 gtD (vr 4) (cst (.int 0)))) (asgS 5 (opN maxF (argsCons (vr 5) (argsCons (op2 ixD (vr 2) (vr 7)) argsNil)))) nxS)
      (seqS (asgS 5 (op2 addD (vr 5) (op2 ixD (op2 ixD (vr 1) (vr 4)) (vr 7))))
      (exprS (apE 6 (vr 5))))) (rngL 0 (zs.length : Int).toNat) [.fro (.tuple T), .fro (.tuple R), .own (iD A), .own (iD E), .fro (.int k), .fro (.int t0), .own [], opn o7]) := by
  have hlr : (rngL 0 (zs.length : Int).toNat).length = zs.length := by rw [rngL_len]; omega
  refine for_nx (fun i g => ∃ o7, g = [.fro (.tuple T), .fro (.tuple R), .own (iD A), .own (iD E), .fro (.int k), .fro (.int (nowF b Af (fun g => zs.getD g 0) t0 i)), .own (iD (colL (nowF b Af (fun g => zs.getD g 0) t0) i)), opn o7]) ⟨o7, rfl⟩ ?_ ?_
  · rintro i d g hi ⟨o7, rfl⟩
    obtain ⟨rfl, hlt⟩ := rngL_at hi
    have hi2 : i < zs.length := by omega
    have hz2 : atI (iD zs) (i : Int) = some (.int (zs.getD i 0)) := by
      rw [iD_get hi2, List.getD_eq_getElem?_getD, List.getElem?_eq_getElem hi2]; rfl
    have hs : (iD (colL (nowF b Af (fun g => zs.getD g 0) t0) i)).length < SZ := by
      have : SZ = 16777216 := rfl
      rw [iD_len, colL_len]; omega
    have he : ∀ x, x = nowF b Af (fun g => zs.getD g 0) t0 (i + 1) → iD (colL (nowF b Af (fun g => zs.getD g 0) t0) i) ++ [PyData.int x] = iD (colL (nowF b Af (fun g => zs.getD g 0) t0) (i + 1)) := fun x hx => by
      rw [colL_succ, iD_app, hx]; rfl
    cases b with
    | false =>
      simp_arith [hb, hR, hz2, hs]
      refine ⟨some (.int i), ?_⟩
      rw [← he _ rfl]
      rfl
    | true =>
      have ha := hA rfl i hi2
      simp_arith [hb, hR, hz2, hs, ha]
      refine ⟨some (.int i), ?_⟩
      rw [← he _ rfl]
      rfl
  · rintro g ⟨o7, rfl⟩
    rw [hlr]
    exact q o7
theorem nowF_f {A B z : Nat → Int} {t : Int} : ∀ {n : Nat}, nowF false A z t n = nowF false B z t n
  | 0 => rfl
  | n + 1 => by
    show nowF false A z t n + z n = nowF false B z t n + z n
    rw [nowF_f (A := A) (B := B)]
/-- the done hours by the law's table, rows all alike -/
theorem ends_ok {ts zs : List Int} {R : List D} (hR : ∀ k, k < ts.length → atI R ((k : Nat) : Int) = some (.tuple (iD zs))) (hz : zs.length ≤ 1000) (ht : ts.length ≤ 1000) :
    F__law_ends [.fro (.tuple (iD ts)), .fro (.tuple R)] = .ok (.fro (.tuple (iD ((List.range ts.length).map fun k => N (fun i => ts.getD i 0) (fun g => zs.getD g 0) k zs.length)))) none := by
  refine fd_post (R := fun r => r = .ok (.fro (.tuple (iD ((List.range ts.length).map fun k => N (fun i => ts.getD i 0) (fun g => zs.getD g 0) k zs.length)))) none) rfl ?_
  have h0 : 0 ≤ SZ := Nat.zero_le _
  have hr : rOk ((iD ts).length : Int) = true := rOk_small (by omega) (by rw [iD_len]; omega)
  have hlr : (rngL 0 ((iD ts).length : Int).toNat).length = ts.length := by rw [rngL_len, iD_len]; omega
  have hr2 : rOk ((iD zs).length : Int) = true := rOk_small (by omega) (by rw [iD_len]; omega)
  simp_arith [d__law_ends, h0, hr]
  refine for_nx (fun i g => ∃ o4 o5 s6 o7, g = [.fro (.tuple (iD ts)), .fro (.tuple R), .own (iD (if i = 0 then [] else colL (N (fun i => ts.getD i 0) (fun g => zs.getD g 0) (i - 1)) zs.length)),
      .own (iD ((List.range i).map fun k => N (fun i => ts.getD i 0) (fun g => zs.getD g 0) k zs.length)), opn o4, opn o5, s6, opn o7] ∧ (s6 = .un ∨ ∃ d, s6 = .own d)) ⟨none, none, .un, none, rfl, .inl rfl⟩ ?_ ?_
  · rintro i d g hi ⟨o4, o5, s6, o7, rfl, h6⟩
    obtain ⟨rfl, hlt⟩ := rngL_at hi
    have hi2 : i < ts.length := by rw [iD_len] at hlt; omega
    have ht2 : atI (iD ts) (i : Int) = some (.int (ts.getD i 0)) := by
      rw [iD_get hi2, List.getD_eq_getElem?_getD, List.getElem?_eq_getElem hi2]; rfl
    have hRi := hR i hi2
    have hs : (iD ((List.range i).map fun k => N (fun i => ts.getD i 0) (fun g => zs.getD g 0) k zs.length)).length < SZ := by
      have : SZ = 16777216 := rfl
      rw [iD_len, List.length_map, List.length_range]; omega
    have fin : ∀ (x : Int), x = N (fun i => ts.getD i 0) (fun g => zs.getD g 0) i zs.length → iD ((List.range i).map fun k => N (fun i => ts.getD i 0) (fun g => zs.getD g 0) k zs.length) ++ [PyData.int x] = iD ((List.range (i + 1)).map fun k => N (fun i => ts.getD i 0) (fun g => zs.getD g 0) k zs.length) := fun x hx => by
      rw [List.range_succ, List.map_append, iD_app, hx]; rfl
    have hN : nowF (decide ((0 : Int) < (i : Int))) (fun g => N (fun i => ts.getD i 0) (fun g => zs.getD g 0) (i - 1) (g + 1)) (fun g => zs.getD g 0) (ts.getD i 0) = N (fun i => ts.getD i 0) (fun g => zs.getD g 0) i := by
      cases i with
      | zero => exact funext fun n => nowF_f
      | succ k => rw [decide_eq_true (by omega)]; rfl
    have hA : decide ((0 : Int) < (i : Int)) = true → ∀ g, g < zs.length → atI (iD (if i = 0 then [] else colL (N (fun i => ts.getD i 0) (fun g => zs.getD g 0) (i - 1)) zs.length)) (g : Int) = some (.int (N (fun i => ts.getD i 0) (fun g => zs.getD g 0) (i - 1) (g + 1))) := fun hp g hg => by
      have := of_decide_eq_true hp
      rw [if_neg (by omega)]
      exact colL_get hg
    have e2 : (if i + 1 = 0 then [] else colL (N (fun i => ts.getD i 0) (fun g => zs.getD g 0) (i + 1 - 1)) zs.length) = colL (N (fun i => ts.getD i 0) (fun g => zs.getD g 0) i) zs.length := by
      rw [if_neg (by omega), Nat.add_sub_cancel]
    rcases h6 with rfl | ⟨d6, rfl⟩
    · simp_arith [ht2, hRi, hr2, h0]
      rw [iD_len]
      refine ends_in rfl hRi hA hz fun o7 => ?_
      rw [hN]
      simp_arith [hs]
      rw [fin _ rfl, Nat.add_sub_cancel]
      exact ⟨some (.int i), some _, _, o7, rfl, .inr ⟨_, rfl⟩⟩
    · simp_arith [ht2, hRi, hr2, h0]
      rw [iD_len]
      refine ends_in rfl hRi hA hz fun o7 => ?_
      rw [hN]
      simp_arith [hs]
      rw [fin _ rfl, Nat.add_sub_cancel]
      exact ⟨some (.int i), some _, _, o7, rfl, .inr ⟨_, rfl⟩⟩
  · rintro g ⟨o4, o5, s6, o7, rfl, h6⟩
    rw [hlr]
    simp_arith []
    exact ⟨_, rfl, rfl⟩
/-! ## the table with equal rows, in closed form -/
def sumN (z : Nat → Int) : Nat → Int
  | 0 => 0
  | g + 1 => sumN z g + z g
/-- the greatest of z 0 .. z g -/
def topN (z : Nat → Int) : Nat → Int
  | 0 => z 0
  | g + 1 => if z (g + 1) > topN z g then z (g + 1) else topN z g
/-- behind g + 1 columns -/
def DD (t z : Nat → Int) : Nat → Nat → Int
  | 0, g => t 0 + sumN z (g + 1)
  | k + 1, g => if DD t z k g + topN z g > t (k + 1) + sumN z (g + 1) then DD t z k g + topN z g else t (k + 1) + sumN z (g + 1)
theorem DD_inv (t z : Nat → Int) : ∀ k g, DD t z k g + z (g + 1) ≤ DD t z k (g + 1) ∧ (z (g + 1) ≤ topN z g → DD t z k (g + 1) = DD t z k g + z (g + 1))
  | 0, g => by
    have e : sumN z (g + 1 + 1) = sumN z (g + 1) + z (g + 1) := rfl
    simp only [DD]
    omega
  | k + 1, g => by
    obtain ⟨h1, h2⟩ := DD_inv t z k g
    have e : sumN z (g + 1 + 1) = sumN z (g + 1) + z (g + 1) := rfl
    have e2 : topN z (g + 1) = if z (g + 1) > topN z g then z (g + 1) else topN z g := rfl
    simp only [DD]
    rw [e, e2]
    by_cases c : z (g + 1) > topN z g
    · rw [if_pos c]
      refine ⟨?_, fun h => absurd h (by omega)⟩
      split <;> split <;> omega
    · rw [if_neg c]
      have h3 := h2 (by omega)
      refine ⟨?_, fun _ => ?_⟩
      · split <;> split <;> omega
      · split <;> split <;> omega
theorem N_DD (t z : Nat → Int) : ∀ k g, N t z k (g + 1) = DD t z k g
  | 0, 0 => by show t 0 + z 0 = t 0 + (0 + z 0); omega
  | 0, g + 1 => by
    have := N_DD t z 0 g
    show N t z 0 (g + 1) + z (g + 1) = t 0 + (sumN z (g + 1) + z (g + 1))
    rw [this]
    simp only [DD]
    omega
  | k + 1, 0 => by
    have := N_DD t z k 0
    show pmax (t (k + 1)) (N t z k 1) + z 0 = _
    rw [this]
    have e : sumN z (0 + 1) = z 0 := by show 0 + z 0 = z 0; omega
    have e2 : topN z 0 = z 0 := rfl
    rw [show DD t z (k + 1) 0 = if DD t z k 0 + topN z 0 > t (k + 1) + sumN z (0 + 1) then DD t z k 0 + topN z 0 else t (k + 1) + sumN z (0 + 1) from rfl, e, e2]
    generalize DD t z k 0 = a
    unfold pmax
    by_cases c : a > t (k + 1)
    · rw [if_pos c, if_pos (by omega)]
    · rw [if_neg c, if_neg (by omega)]
  | k + 1, g + 1 => by
    have h1 := N_DD t z (k + 1) g
    have h2 := N_DD t z k (g + 1)
    obtain ⟨i1, i2⟩ := DD_inv t z k g
    have e : sumN z (g + 1 + 1) = sumN z (g + 1) + z (g + 1) := rfl
    have e2 : topN z (g + 1) = if z (g + 1) > topN z g then z (g + 1) else topN z g := rfl
    show pmax (N t z (k + 1) (g + 1)) (N t z k (g + 1 + 1)) + z (g + 1) = _
    rw [h1, h2]
    simp only [DD, pmax]
    rw [e, e2]
    by_cases c : z (g + 1) > topN z g
    · rw [if_pos c]
      split <;> split <;> split <;> omega
    · rw [if_neg c]
      have := i2 (by omega)
      split <;> split <;> split <;> omega
theorem getD_cons {x : Int} {l : List Int} {i : Nat} : (x :: l).getD (i + 1) 0 = l.getD i 0 := by simp
theorem sumN_cons (x : Int) (l : List Int) : ∀ n, sumN (fun g => (x :: l).getD g 0) (n + 1) = x + sumN (fun g => l.getD g 0) n
  | 0 => by show 0 + x = x + 0; omega
  | n + 1 => by
    have := sumN_cons x l n
    show sumN (fun g => (x :: l).getD g 0) (n + 1) + (x :: l).getD (n + 1) 0 = x + (sumN (fun g => l.getD g 0) n + l.getD n 0)
    rw [this, getD_cons]; omega
theorem sumN_sum : ∀ l : List Int, sumN (fun g => l.getD g 0) l.length = l.sum
  | [] => rfl
  | x :: l => by
    rw [List.length_cons, sumN_cons, sumN_sum l, List.sum_cons]
/-- the greatest so far, from a first one -/
def fm (a b : Int) : Int := if b > a then b else a
theorem topN_fold (z : Nat → Int) : ∀ (l : List Int) (k : Nat), (∀ i, i < l.length → z (k + 1 + i) = l.getD i 0) → l.foldl (fun a b => if b > a then b else a) (topN z k) = topN z (k + l.length)
  | [], k, _ => rfl
  | x :: l, k, h => by
    have hx : z (k + 1) = x := h 0 (by simp)
    have e : (if x > topN z k then x else topN z k) = topN z (k + 1) := by
      show _ = (if z (k + 1) > topN z k then z (k + 1) else topN z k)
      rw [hx]
    rw [List.foldl_cons, e, topN_fold z l (k + 1) (fun i hi => by
      have := h (i + 1) (by simp; omega)
      rw [getD_cons] at this
      rw [← this]; congr 1; omega), List.length_cons]
    congr 1; omega
theorem topN_max {x : Int} {l : List Int} : topN (fun g => (x :: l).getD g 0) l.length = maxL (x :: l) := by
  have := topN_fold (fun g => (x :: l).getD g 0) l 0 (fun i hi => by
    show (x :: l).getD (0 + 1 + i) 0 = _
    rw [show 0 + 1 + i = i + 1 by omega, getD_cons])
  rw [Nat.zero_add] at this
  exact this.symm
theorem due_DD {ts zs : List Int} (kn : zs ≠ []) : ∀ k, due zs.sum (maxL zs) ts k = N (fun i => ts.getD i 0) (fun g => zs.getD g 0) k zs.length := by
  cases zs with
  | nil => exact absurd rfl kn
  | cons x l =>
    intro k
    rw [List.length_cons, N_DD]
    induction k with
    | zero =>
      show ts.getD 0 0 + (x :: l).sum = ts.getD 0 0 + sumN _ (l.length + 1)
      rw [← List.length_cons (a := x), sumN_sum]
    | succ k ih =>
      show (if due _ _ ts k + maxL (x :: l) > ts.getD (k + 1) 0 + (x :: l).sum then due _ _ ts k + maxL (x :: l) else ts.getD (k + 1) 0 + (x :: l).sum) = if DD _ _ k l.length + topN _ l.length > ts.getD (k + 1) 0 + sumN _ (l.length + 1) then DD _ _ k l.length + topN _ l.length else ts.getD (k + 1) 0 + sumN _ (l.length + 1)
      rw [ih, topN_max, ← List.length_cons (a := x), sumN_sum]
theorem ends_is {ts zs : List Int} {R : List D} (kn : zs ≠ []) (hR : ∀ k, k < ts.length → atI R ((k : Nat) : Int) = some (.tuple (iD zs))) (hz : zs.length ≤ 1000) (ht : ts.length ≤ 1000) :
    F__law_ends [.fro (.tuple (iD ts)), .fro (.tuple R)] = .ok (.fro (.tuple (iD (dues zs.sum (maxL zs) ts ts.length)))) none := by
  rw [ends_ok hR hz ht]
  unfold dues
  rw [show (fun k => N (fun i => ts.getD i 0) (fun g => zs.getD g 0) k zs.length) = due zs.sum (maxL zs) ts from funext fun k => (due_DD kn k).symm]
theorem pass_ok {zs : List Int} {h : Int} (kn : zs ≠ []) (k1 : ∀ z ∈ zs, 1 ≤ z) (kz : zs.length ≤ 1000) (hd : divOk (maxL zs) = true) :
    F_least_to_pass [.fro (.tuple (iD zs)), .fro (.int h)] = .ok (.fro (.int (if h - zs.sum < 0 then 1 else (h - zs.sum) / maxL zs + 2))) none := by
  refine fd_post (R := fun r => r = .ok (.fro (.int (if h - zs.sum < 0 then 1 else (h - zs.sum) / maxL zs + 2))) none) rfl ?_
  by_cases c : h - zs.sum < 0
  · simp_arith [d_least_to_pass, lengths_ok kn k1 kz, sumF_i, maxF_i kn, isint_i, decide_eq_true c, hd]
    exact ⟨_, rfl, by rw [if_pos c]⟩
  · simp_arith [d_least_to_pass, lengths_ok kn k1 kz, sumF_i, maxF_i kn, isint_i, decide_eq_false c, hd]
    exact ⟨_, rfl, by rw [if_neg c]⟩
theorem join_ok {zs ys : List Int} (kn : zs ≠ []) (k1 : ∀ z ∈ zs, 1 ≤ z) (kz : zs.length ≤ 1000) (jn : ys ≠ []) (j1 : ∀ z ∈ ys, 1 ≤ z) (jz : ys.length ≤ 1000) :
    F_queue_join [.fro (.tuple (iD zs)), .fro (.tuple (iD ys))] = .ok (.fro (.tuple [.int (zs.sum + ys.sum), .int (if maxL ys > maxL zs then maxL ys else maxL zs)])) none := by
  refine fd_post (R := fun r => r = .ok (.fro (.tuple [.int (zs.sum + ys.sum), .int (if maxL ys > maxL zs then maxL ys else maxL zs)])) none) rfl ?_
  have hp := List.length_pos_iff.mpr jn
  have hl : decide (((iD ys).length : Int) = 0) = false := decide_eq_false (by rw [iD_len]; omega)
  have hr : rOk ((iD ys).length : Int) = true := rOk_small (by omega) (by rw [iD_len]; omega)
  have hlr : (rngL 0 ((iD ys).length : Int).toNat).length = ys.length := by rw [rngL_len, iD_len]; omega
  have h2 : 2 ≤ SZ := by decide
  simp_arith [d_queue_join, lengths_ok kn k1 kz, hl, hr]
  refine for_nx (fun i g => ∃ o, g = [.fro (.tuple (iD zs)), .fro (.tuple (iD ys)), .fro (.tuple (iD zs)), opn o]) ⟨none, rfl⟩ ?_ ?_
  · rintro i d g hi ⟨o, rfl⟩
    obtain ⟨rfl, hlt⟩ := rngL_at hi
    have hi2 : i < ys.length := by rw [iD_len] at hlt; omega
    have hx := iD_get hi2
    have h1 : decide (ys[i] < 1) = false := decide_eq_false (by have := j1 _ (List.getElem_mem hi2); omega)
    simp_arith [hx, isint_i, h1]
    exact ⟨some _, rfl⟩
  · rintro g ⟨o, rfl⟩
    simp_arith [sumF_i, maxF_i kn, maxF_i jn, h2]
    exact ⟨_, rfl, rfl⟩
theorem all_in {zs : List Int} {x0 x1 x2 x3 : Sl} {Q : List D → List Sl → Prop} (k1 : ∀ z ∈ zs, 1 ≤ z) (kz : zs.length ≤ 1000)
    (q : Q (zs.map fun _ => PyData.bool true) [x0, x1, x2, x3, .un]) : Post Q (fun _ _ _ _ => False) (lcL [4] (.one 4) (ret true) (andV (callE F_is_int (argsCons (vr 4) argsNil)) (op2 geD (vr 4) (cst (.int 1)))) [] (iD zs) [x0, x1, x2, x3, .un]) := by
  refine lc_wp (fun i acc g => g = [x0, x1, x2, x3, .un] ∧ acc = (zs.take i).map fun _ => PyData.bool true) ⟨rfl, rfl⟩ ?_ ?_
  · rintro i d acc g hi ⟨rfl, rfl⟩
    have hlt : i < zs.length := by have := (List.getElem?_eq_some_iff.mp hi).1; rwa [iD_len] at this
    obtain rfl : d = .int zs[i] := by
      unfold iD at hi
      rw [List.getElem?_map, List.getElem?_eq_getElem hlt] at hi
      exact (Option.some.inj hi).symm
    have hs : ((zs.take i).map fun _ => PyData.bool true).length < SZ := by
      have : SZ = 16777216 := rfl
      rw [List.length_map, List.length_take]; omega
    have h1 : decide (1 ≤ zs[i]) = true := decide_eq_true (k1 _ (List.getElem_mem hlt))
    simp_arith [isint_i, h1, hs]
    refine ⟨trivial, trivial, ?_⟩
    have e : zs.take (i + 1) = zs.take i ++ [zs[i]] := by rw [List.take_append_getElem]
    rw [e, List.map_append]
    rfl
  · rintro acc g ⟨rfl, rfl⟩
    rw [iD_len, List.take_length]
    exact q
theorem blsOf_tt : ∀ zs : List Int, blsOf (zs.map fun _ => PyData.bool true) = some (zs.map fun _ => true)
  | [] => rfl
  | z :: zs => by
    rw [List.map_cons, blsOf, blsOf_tt zs]; rfl
theorem all_tt (zs : List Int) : allF [.list (zs.map fun _ => PyData.bool true)] = some (.val (.bool true)) := by
  unfold allF
  simp only
  rw [blsOf_tt]
  show some (Out.val (.bool ((zs.map fun _ => true).all id))) = _
  rw [List.all_map]
  congr 3
  simp
theorem rows_tuple {zs : List Int} {n : Nat} (kn : zs ≠ []) (k1 : ∀ z ∈ zs, 1 ≤ z) (kz : zs.length ≤ 1000) (hn : n ≤ 1000) : F_queue_rows [.fro (.tuple (List.replicate n (.tuple (iD zs))))] = .ok (.fro (.tuple (List.replicate n (.tuple (iD zs))))) none := by
  refine fd_post (R := fun r => r = .ok (.fro (.tuple (List.replicate n (.tuple (iD zs))))) none) rfl ?_
  generalize hR : List.replicate n (PyData.tuple (iD zs)) = R
  have hRl : R.length = n := by rw [← hR, List.length_replicate]
  have hRa : ∀ i, i < n → atI R ((i : Nat) : Int) = some (.tuple (iD zs)) := fun i hi => by
    rw [Mw.atI_nat (by omega) (by rw [hRl]; omega), show ((i : Int)).toNat = i by omega, ← hR, List.getElem?_replicate, if_pos hi]
  have hr : rOk (R.length : Int) = true := rOk_small (by omega) (by omega)
  have hlr : (rngL 0 (R.length : Int).toNat).length = n := by rw [rngL_len]; omega
  have h0 : 0 ≤ SZ := Nat.zero_le _
  have hp := List.length_pos_iff.mpr kn
  have hl0 : decide (((iD zs).length : Int) = 0) = false := decide_eq_false (by rw [iD_len]; omega)
  have hall : allF [.list (zs.map fun _ => PyData.bool true)] = some (.val (.bool true)) := all_tt zs
  simp_arith [d_queue_rows, h0, hr]
  refine for_nx (fun i g => ∃ o2 o3, g = [.fro (.tuple R), .own (List.replicate i (.tuple (iD zs))), opn o2, opn o3, .un]) ⟨none, none, rfl⟩ ?_ ?_
  · rintro i d g hi ⟨o2, o3, rfl⟩
    obtain ⟨rfl, hlt⟩ := rngL_at hi
    have hi2 : i < n := by omega
    have hx := hRa i hi2
    have hs : (List.replicate i (PyData.tuple (iD zs))).length < SZ := by
      have : SZ = 16777216 := rfl
      rw [List.length_replicate]; omega
    have hne : neD (.int (iD zs).length) (.int (iD zs).length) = some (.val (.bool false)) := by rw [neD_ii, decide_eq_true rfl]; rfl
    cases i with
    | zero =>
      have h1 : decide ((0 : Int) < ((0 : Nat) : Int)) = false := rfl
      simp_arith [hx, hl0, h1]
      refine all_in k1 kz ?_
      have h0s : 0 < SZ := by decide
      simp_arith [hall, h0s]
      exact ⟨some _, some _, rfl⟩
    | succ k =>
      have h1 : decide ((0 : Int) < ((k + 1 : Nat) : Int)) = true := decide_eq_true (by omega)
      have h3 : atI (List.replicate (k + 1) (PyData.tuple (iD zs))) 0 = some (.tuple (iD zs)) := by
        rw [Mw.atI_nat (by omega) (by rw [List.length_replicate]; omega)]; rfl
      generalize hL : List.replicate (k + 1) (PyData.tuple (iD zs)) = L at h3 hs ⊢
      simp_arith [hx, hl0, h1, h3, decide_true, Bool.not_true]
      refine all_in k1 kz ?_
      simp_arith [hall, hs]
      have e : L ++ [PyData.tuple (iD zs)] = PyData.tuple (iD zs) :: PyData.tuple (iD zs) :: List.replicate k (PyData.tuple (iD zs)) := by
        rw [← hL, ← List.replicate_succ']; rfl
      rw [e]
      exact ⟨some _, some _, rfl⟩
  · rintro g ⟨o2, o3, rfl⟩
    rw [hlr, hR]
    simp_arith []
    exact ⟨_, rfl, rfl⟩
end G82
namespace G82
open PySem L2 Mw
theorem rows_list {zs : List Int} {n : Nat} (kn : zs ≠ []) (k1 : ∀ z ∈ zs, 1 ≤ z) (kz : zs.length ≤ 1000) (hn : n ≤ 1000) : F_queue_rows [.fro (.list (List.replicate n (.tuple (iD zs))))] = .ok (.fro (.tuple (List.replicate n (.tuple (iD zs))))) none := by
  refine fd_post (R := fun r => r = .ok (.fro (.tuple (List.replicate n (.tuple (iD zs))))) none) rfl ?_
  generalize hR : List.replicate n (PyData.tuple (iD zs)) = R
  have hRl : R.length = n := by rw [← hR, List.length_replicate]
  have hRa : ∀ i, i < n → atI R ((i : Nat) : Int) = some (.tuple (iD zs)) := fun i hi => by
    rw [Mw.atI_nat (by omega) (by rw [hRl]; omega), show ((i : Int)).toNat = i by omega, ← hR, List.getElem?_replicate, if_pos hi]
  have hr : rOk (R.length : Int) = true := rOk_small (by omega) (by omega)
  have hlr : (rngL 0 (R.length : Int).toNat).length = n := by rw [rngL_len]; omega
  have h0 : 0 ≤ SZ := Nat.zero_le _
  have hp := List.length_pos_iff.mpr kn
  have hl0 : decide (((iD zs).length : Int) = 0) = false := decide_eq_false (by rw [iD_len]; omega)
  have hall : allF [.list (zs.map fun _ => PyData.bool true)] = some (.val (.bool true)) := all_tt zs
  simp_arith [d_queue_rows, h0, hr]
  refine for_nx (fun i g => ∃ o2 o3, g = [.fro (.list R), .own (List.replicate i (.tuple (iD zs))), opn o2, opn o3, .un]) ⟨none, none, rfl⟩ ?_ ?_
  · rintro i d g hi ⟨o2, o3, rfl⟩
    obtain ⟨rfl, hlt⟩ := rngL_at hi
    have hi2 : i < n := by omega
    have hx := hRa i hi2
    have hs : (List.replicate i (PyData.tuple (iD zs))).length < SZ := by
      have : SZ = 16777216 := rfl
      rw [List.length_replicate]; omega
    cases i with
    | zero =>
      have h1 : decide ((0 : Int) < ((0 : Nat) : Int)) = false := rfl
      simp_arith [hx, hl0, h1]
      refine all_in k1 kz ?_
      have h0s : 0 < SZ := by decide
      simp_arith [hall, h0s]
      exact ⟨some _, some _, rfl⟩
    | succ k =>
      have h1 : decide ((0 : Int) < ((k + 1 : Nat) : Int)) = true := decide_eq_true (by omega)
      have h3 : atI (List.replicate (k + 1) (PyData.tuple (iD zs))) 0 = some (.tuple (iD zs)) := by
        rw [Mw.atI_nat (by omega) (by rw [List.length_replicate]; omega)]; rfl
      generalize hL : List.replicate (k + 1) (PyData.tuple (iD zs)) = L at h3 hs ⊢
      simp_arith [hx, hl0, h1, h3, decide_true, Bool.not_true]
      refine all_in k1 kz ?_
      simp_arith [hall, hs]
      have e : L ++ [PyData.tuple (iD zs)] = PyData.tuple (iD zs) :: PyData.tuple (iD zs) :: List.replicate k (PyData.tuple (iD zs)) := by
        rw [← hL, ← List.replicate_succ']; rfl
      rw [e]
      exact ⟨some _, some _, rfl⟩
  · rintro g ⟨o2, o3, rfl⟩
    rw [hlr, hR]
    simp_arith []
    exact ⟨_, rfl, rfl⟩
/-- a table of n equal rows, as tuple or as list -/
def RowsC (zs : List Int) (n : Nat) (c : D) : Prop := c = .tuple (List.replicate n (.tuple (iD zs))) ∨ c = .list (List.replicate n (.tuple (iD zs)))
theorem table_ok {zs : List Int} {n : Nat} {c : D} (hc : RowsC zs n c) (kn : zs ≠ []) (k1 : ∀ z ∈ zs, 1 ≤ z) (kz : zs.length ≤ 1000) (hn : n ≤ 1000) : F_queue_table [.fro c, .fro (.int n)] = .ok (.fro (.tuple (List.replicate n (.tuple (iD zs))))) none := by
  refine fd_post (R := fun r => r = .ok (.fro (.tuple (List.replicate n (.tuple (iD zs))))) none) rfl ?_
  have hT := rows_tuple kn k1 kz hn
  have hL := rows_list kn k1 kz hn
  have hl : (List.replicate n (PyData.tuple (iD zs))).length = n := List.length_replicate
  rcases hc with rfl | rfl
  · generalize hR : List.replicate n (PyData.tuple (iD zs)) = R at hT hl ⊢
    subst hl
    simp_arith [d_queue_table, hT, decide_true, Bool.not_true]
    exact ⟨_, rfl, rfl⟩
  · generalize hR : List.replicate n (PyData.tuple (iD zs)) = R at hL hl ⊢
    subst hl
    simp_arith [d_queue_table, hL, decide_true, Bool.not_true]
    exact ⟨_, rfl, rfl⟩
theorem log2_le {n k : Nat} (h : n < 2 ^ k) : n.log2 ≤ k := by
  by_cases h0 : n = 0
  · subst h0; simp
  · exact Nat.le_of_lt ((Nat.log2_lt h0).mpr h)
def BB : Int := 1000000000000000000000000000000000000000000000000000000000000
theorem BB_is : BB = 1000000000000000000000000000000000000000000000000000000000000 := rfl
theorem mulOk_b {a b : Int} (h1 : -BB ≤ a) (h2 : a ≤ BB) (h3 : -BB ≤ b) (h4 : b ≤ BB) : mulOk a b = true := by
  have hB : (1000000000000000000000000000000000000000000000000000000000000 : Nat) < 2 ^ 250 := by decide
  rw [BB_is] at h1 h2 h3 h4
  have ha : a.natAbs < 2 ^ 250 := Nat.lt_of_le_of_lt (by omega) hB
  have hb : b.natAbs < 2 ^ 250 := Nat.lt_of_le_of_lt (by omega) hB
  have := log2_le ha
  have := log2_le hb
  unfold mulOk
  exact decide_eq_true (by omega)
theorem divOk_b {b : Int} (h3 : 0 < b) (h4 : b ≤ BB) : divOk b = true := by
  have hB : (1000000000000000000000000000000000000000000000000000000000000 : Nat) < 2 ^ 250 := by decide
  rw [BB_is] at h4
  have hb : b.natAbs < 2 ^ 250 := Nat.lt_of_le_of_lt (by omega) hB
  have := log2_le hb
  unfold divOk
  exact decide_eq_true (by omega)
theorem cells_ok {a b : Nat} (ha : a ≤ 200) (hb : b ≤ 200) : F_queue_cells [.fro (.int a), .fro (.int b)] = .ok (.fro .none) none := by
  refine fd_post (R := fun r => r = .ok (.fro .none) none) rfl ?_
  have hm : mulOk (a : Int) (b : Int) = true := mulOk_b (by rw [BB_is]; omega) (by rw [BB_is]; omega) (by rw [BB_is]; omega) (by rw [BB_is]; omega)
  have hl : decide ((40000 : Int) < (a : Int) * (b : Int)) = false := decide_eq_false (by
    have := Nat.mul_le_mul ha hb
    have e : ((a * b : Nat) : Int) = (a : Int) * (b : Int) := Int.natCast_mul a b
    omega)
  simp_arith [d_queue_cells, hm, hl]
  exact ⟨_, rfl, rfl⟩
theorem leav_in {T R : List D} {zs : List Int} {E : List D} {k : Nat} {b : Bool} {Ad : D} {Al : List D} {Af : Nat → Int} {t0 : Int} {o7 : Option D} {Q : Fl → List Sl → Prop} {ex : Nat → Str → D → List Sl → Prop}
    (hb : Ad = if b = true then .list Al else .none) (hR : atI R (k : Int) = some (.tuple (iD zs))) (hA : b = true → ∀ g, g < zs.length → atI Al (g : Int) = some (.int (Af g))) (hz : zs.length ≤ 1000)
    (q : ∀ o7, Q .nx [.fro (.tuple T), .fro (.tuple R), .own E, .fro Ad, .fro (.int k), .fro (.int (nowF b Af (fun g => zs.getD g 0) t0 zs.length)), .own (iD (colL (nowF b Af (fun g => zs.getD g 0) t0) zs.length)), opn o7]) :
    Post Q ex (forL (.one 7) (seqS (ifS (andT (tstE (op1 noNF (vr 3))) (tstE (op2 gtD (op2 ixD (vr 3) (vr 7)) (vr 5)))) (asgS 5 (op2 ixD (vr 3) (vr 7))) nxS)
      (seqS (asgS 5 (op2 addD (vr 5) (op2 ixD (op2 ixD (vr 1) (vr 4)) (vr 7))))
      (exprS (apE 6 (vr 5))))) (rngL 0 (zs.length : Int).toNat) [.fro (.tuple T), .fro (.tuple R), .own E, .fro Ad, .fro (.int k), .fro (.int t0), .own [], opn o7]) := by
  have hlr : (rngL 0 (zs.length : Int).toNat).length = zs.length := by rw [rngL_len]; omega
  refine for_nx (fun i g => ∃ o7, g = [.fro (.tuple T), .fro (.tuple R), .own E, .fro Ad, .fro (.int k), .fro (.int (nowF b Af (fun g => zs.getD g 0) t0 i)), .own (iD (colL (nowF b Af (fun g => zs.getD g 0) t0) i)), opn o7]) ⟨o7, rfl⟩ ?_ ?_
  · rintro i d g hi ⟨o7, rfl⟩
    obtain ⟨rfl, hlt⟩ := rngL_at hi
    have hi2 : i < zs.length := by omega
    have hz2 : atI (iD zs) (i : Int) = some (.int (zs.getD i 0)) := by
      rw [iD_get hi2, List.getD_eq_getElem?_getD, List.getElem?_eq_getElem hi2]; rfl
    have hs : (iD (colL (nowF b Af (fun g => zs.getD g 0) t0) i)).length < SZ := by
      have : SZ = 16777216 := rfl
      rw [iD_len, colL_len]; omega
    have he : ∀ x, x = nowF b Af (fun g => zs.getD g 0) t0 (i + 1) → iD (colL (nowF b Af (fun g => zs.getD g 0) t0) i) ++ [PyData.int x] = iD (colL (nowF b Af (fun g => zs.getD g 0) t0) (i + 1)) := fun x hx => by
      rw [colL_succ, iD_app, hx]; rfl
    cases b with
    | false =>
      rw [if_neg Bool.false_ne_true] at hb
      subst hb
      simp_arith [hR, hz2, hs]
      refine ⟨some (.int i), ?_⟩
      rw [← he _ rfl]
      rfl
    | true =>
      rw [if_pos rfl] at hb
      subst hb
      have ha := hA rfl i hi2
      by_cases c : nowF true Af (fun g => zs.getD g 0) t0 i < Af i
      · have hc : decide (nowF true Af (fun g => zs.getD g 0) t0 i < Af i) = true := decide_eq_true c
        have ht : nowF true Af (fun g => zs.getD g 0) t0 (i + 1) = Af i + zs.getD i 0 := by
          show (if true = true then pmax (nowF true Af _ t0 i) (Af i) else _) + zs.getD i 0 = _
          rw [if_pos rfl]
          unfold pmax
          rw [if_pos c]
        simp_arith [hR, hz2, hs, ha, hc]
        refine ⟨some (.int i), ?_⟩
        rw [← he _ rfl, ht]
        rfl
      · have hc : decide (nowF true Af (fun g => zs.getD g 0) t0 i < Af i) = false := decide_eq_false c
        have ht : nowF true Af (fun g => zs.getD g 0) t0 (i + 1) = nowF true Af (fun g => zs.getD g 0) t0 i + zs.getD i 0 := by
          show (if true = true then pmax (nowF true Af _ t0 i) (Af i) else _) + zs.getD i 0 = _
          rw [if_pos rfl]
          unfold pmax
          rw [if_neg c]
        simp_arith [hR, hz2, hs, ha, hc]
        refine ⟨some (.int i), ?_⟩
        rw [← he _ rfl, ht]
        rfl
  · rintro g ⟨o7, rfl⟩
    rw [hlr]
    exact q o7
def NN (ts zs : List Int) : Nat → Nat → Int := N (fun i => ts.getD i 0) (fun g => zs.getD g 0)
theorem leavings_ok {ts zs : List Int} {R : List D} (hR : ∀ k, k < ts.length → atI R ((k : Nat) : Int) = some (.tuple (iD zs))) (hz : zs.length ≤ 1000) (ht : ts.length ≤ 1000) :
    F_queue_leavings [.fro (.tuple (iD ts)), .fro (.tuple R)] = .ok (.fro (.tuple ((List.range ts.length).map fun k => .tuple (iD (colL (NN ts zs k) zs.length))))) none := by
  refine fd_post (R := fun r => r = .ok (.fro (.tuple ((List.range ts.length).map fun k => .tuple (iD (colL (NN ts zs k) zs.length))))) none) rfl ?_
  have h0 : 0 ≤ SZ := Nat.zero_le _
  have hr : rOk ((iD ts).length : Int) = true := rOk_small (by omega) (by rw [iD_len]; omega)
  have hlr : (rngL 0 ((iD ts).length : Int).toNat).length = ts.length := by rw [rngL_len, iD_len]; omega
  have hr2 : rOk ((iD zs).length : Int) = true := rOk_small (by omega) (by rw [iD_len]; omega)
  simp_arith [d_queue_leavings, h0, hr]
  refine for_nx (fun i g => ∃ o4 o5 o6 o7, g = [.fro (.tuple (iD ts)), .fro (.tuple R), .own ((List.range i).map fun k => .tuple (iD (colL (NN ts zs k) zs.length))),
      .fro (if decide (0 < i) = true then .list (iD (colL (NN ts zs (i - 1)) zs.length)) else .none), opn o4, opn o5, opn o6, opn o7]) ⟨none, none, none, none, rfl⟩ ?_ ?_
  · rintro i d g hi ⟨o4, o5, o6, o7, rfl⟩
    obtain ⟨rfl, hlt⟩ := rngL_at hi
    have hi2 : i < ts.length := by rw [iD_len] at hlt; omega
    have ht2 : atI (iD ts) (i : Int) = some (.int (ts.getD i 0)) := by
      rw [iD_get hi2, List.getD_eq_getElem?_getD, List.getElem?_eq_getElem hi2]; rfl
    have hRi := hR i hi2
    have hs : ((List.range i).map fun k => PyData.tuple (iD (colL (NN ts zs k) zs.length))).length < SZ := by
      have : SZ = 16777216 := rfl
      rw [List.length_map, List.length_range]; omega
    have hN : nowF (decide (0 < i)) (fun g => NN ts zs (i - 1) (g + 1)) (fun g => zs.getD g 0) (ts.getD i 0) = NN ts zs i := by
      cases i with
      | zero => exact funext fun n => nowF_f
      | succ k => rw [decide_eq_true (by omega)]; rfl
    have fin : ((List.range i).map fun k => PyData.tuple (iD (colL (NN ts zs k) zs.length))) ++ [PyData.tuple (iD (colL (NN ts zs i) zs.length))] = (List.range (i + 1)).map fun k => PyData.tuple (iD (colL (NN ts zs k) zs.length)) := by
      rw [List.range_succ, List.map_append]; rfl
    generalize hAd : (if decide (0 < i) = true then PyData.list (iD (colL (NN ts zs (i - 1)) zs.length)) else PyData.none) = Ad
    simp_arith [ht2, hRi, hr2, h0]
    rw [iD_len]
    refine leav_in (Af := fun g => NN ts zs (i - 1) (g + 1)) hAd.symm hRi (fun _ g hg => colL_get hg) hz fun o7 => ?_
    rw [hN]
    simp_arith [hs]
    rw [fin]
    have e3 : (if decide (0 < i + 1) = true then PyData.list (iD (colL (NN ts zs (i + 1 - 1)) zs.length)) else PyData.none) = PyData.list (iD (colL (NN ts zs i) zs.length)) := by
      rw [decide_eq_true (by omega), if_pos rfl, Nat.add_sub_cancel]
    rw [e3]
    exact ⟨some _, some _, some _, o7, rfl⟩
  · rintro g ⟨o4, o5, o6, o7, rfl⟩
    rw [hlr]
    simp_arith []
    exact ⟨_, rfl, rfl⟩
theorem done_ok {ts zs : List Int} {i : Nat} {c : D} (hc : RowsC zs ts.length c) (hn : ts ≠ []) (h : Up ts) (hz : ts.length ≤ 200) (kn : zs ≠ []) (k1 : ∀ z ∈ zs, 1 ≤ z) (kz : zs.length ≤ 200) (hi : i < ts.length) :
    F_done_at [.fro (.tuple (iD ts)), .fro c, .fro (.int (i + 1 : Nat))] = .ok (.fro (.int (due zs.sum (maxL zs) ts i))) none := by
  refine fd_post (R := fun r => r = .ok (.fro (.int (due zs.sum (maxL zs) ts i))) none) rfl ?_
  have hc1 := change_ok (ds := iD ts) (i := ((i + 1 : Nat) : Int)) (by omega) (by rw [iD_len]; omega)
  have ht := table_ok hc kn k1 (by omega) (by omega)
  have e1 : (((i + 1 : Nat) : Int) - 1) = (i : Int) := by omega
  generalize hR : List.replicate ts.length (PyData.tuple (iD zs)) = R at ht
  have hRl : R.length = ts.length := by rw [← hR, List.length_replicate]
  have hRa : ∀ k, k < ts.length → atI R ((k : Nat) : Int) = some (.tuple (iD zs)) := fun i hi => by
    rw [Mw.atI_nat (by omega) (by rw [hRl]; omega), show ((i : Int)).toNat = i by omega, ← hR, List.getElem?_replicate, if_pos hi]
  have hp := List.length_pos_iff.mpr hn
  have hR0 : atI R 0 = some (.tuple (iD zs)) := hRa 0 hp
  have hcl := cells_ok (a := R.length) (b := (iD zs).length) (by rw [hRl]; exact hz) (by rw [iD_len]; exact kz)
  have hlv := leavings_ok (ts := ts) (zs := zs) hRa (by omega) (by omega)
  have hx : atI ((List.range ts.length).map fun k => PyData.tuple (iD (colL (NN ts zs k) zs.length))) (((i + 1 : Nat) : Int) - 1) = some (.tuple (iD (colL (NN ts zs i) zs.length))) := by
    rw [e1, Mw.atI_nat (by omega) (by simp; omega), show ((i : Int)).toNat = i by omega, List.getElem?_map, List.getElem?_range hi]; rfl
  have hy : atI (iD (colL (NN ts zs i) zs.length)) (-1) = some (.int (due zs.sum (maxL zs) ts i)) := by
    have hzp := List.length_pos_iff.mpr kn
    obtain ⟨m, hm⟩ : ∃ m, zs.length = m + 1 := ⟨zs.length - 1, by omega⟩
    rw [due_DD kn, hm, colL_succ, atI_last]
    rfl
  have hlen : F_queue_table [.fro c, .fro (.int ((iD ts).length : Nat))] = .ok (.fro (.tuple R)) none := by rw [iD_len]; exact ht
  simp_arith [d_done_at, times_ok hn h (by omega), hlen, hc1, hR0, hcl, hlv, hx, hy]
  exact ⟨_, rfl, rfl⟩
end G82
namespace G82
open PySem L2 Mw
/-! ## what is refused -/
theorem change_bad {ds : List D} {w : D} (hw : badW w = true) (ho : okD 6 w = true) : F_queue_change [.fro (.tuple ds), .fro w] = .exn 2 "at" (tpD w) none := by
  refine fd_post (R := fun x => x = .exn 2 "at" (tpD w) none) rfl ?_
  have hi := ini_num ho
  cases w with
  | int n =>
    have h0 : decide (n < 1) = true := hw
    have h1 : decide (1 ≤ n) = false := decide_eq_false (by have := of_decide_eq_true h0; omega)
    simp_arith [d_queue_change, isint_i, h1, hi]
  | dict _ => cases hw
  | none =>
    have hx := isint_d .none (fun _ z => nomatch z)
    simp_arith [d_queue_change, hx, isI, hi]
  | bool b =>
    have hx := isint_d (.bool b) (fun _ z => nomatch z)
    simp_arith [d_queue_change, hx, isI, hi]
  | str z =>
    have hx := isint_d (.str z) (fun _ z => nomatch z)
    simp_arith [d_queue_change, hx, isI, hi]
  | list ds =>
    have hx := isint_d (.list ds) (fun _ z => nomatch z)
    simp_arith [d_queue_change, hx, isI, hi]
  | tuple ds =>
    have hx := isint_d (.tuple ds) (fun _ z => nomatch z)
    simp_arith [d_queue_change, hx, isI, hi]
theorem change_far {ds : List D} {n : Int} (hn : (ds.length : Int) < n) : F_queue_change [.fro (.tuple ds), .fro (.int n)] = .exn 2 "at" (.int n) none := by
  refine fd_post (R := fun x => x = .exn 2 "at" (.int n) none) rfl ?_
  have h1 : decide (1 ≤ n) = true := decide_eq_true (by omega)
  have h2 : decide (n ≤ (ds.length : Int)) = false := decide_eq_false (by omega)
  simp_arith [d_queue_change, isint_i, h1, h2, num_i]
theorem ini_pair {d : D} {n : Int} (h : okD 5 d = true) : iniD ini_BadNumber (.tuple [d, .int n]) = some (.tuple [tpD d, .int n]) := by
  rw [ini_num (d := .tuple [d, .int n]) (by simp [okD, okA, h])]
  simp [tpD, tpA]
theorem ini_pairII {m n : Int} : iniD ini_BadNumber (.tuple [.int m, .int n]) = some (.tuple [.int m, .int n]) := ini_pair (d := .int m) rfl
section
variable {ts zs : List Int} {a b c v : D}
theorem closed_badT (h : F_queue_times [.fro a] = .exn 3 "at" v none) : F_closed_done [.fro a, .fro b, .fro c] = .exn 3 "at" v none := by
  refine fd_post (R := fun x => x = .exn 3 "at" v none) rfl ?_
  simp_arith [d_closed_done, h]
theorem closed_badZ (ht : F_queue_times [.fro a] = .ok (.fro a) none) (h : F_queue_lengths [.fro b] = .exn 2 "at" v none) : F_closed_done [.fro a, .fro b, .fro c] = .exn 2 "at" v none := by
  refine fd_post (R := fun x => x = .exn 2 "at" v none) rfl ?_
  simp_arith [d_closed_done, ht, h]
theorem closed_badI (ht : F_queue_times [.fro a] = .ok (.fro a) none) (hl : F_queue_lengths [.fro b] = .ok (.fro b) none) (h : F_queue_change [.fro a, .fro c] = .exn 2 "at" v none) : F_closed_done [.fro a, .fro b, .fro c] = .exn 2 "at" v none := by
  refine fd_post (R := fun x => x = .exn 2 "at" v none) rfl ?_
  simp_arith [d_closed_done, ht, hl, h]
theorem stream_badZ (h : F_queue_lengths [.fro a] = .exn 2 "at" v none) : F_stream_done [.fro a, .fro b, .fro c] = .exn 2 "at" v none := by
  refine fd_post (R := fun x => x = .exn 2 "at" v none) rfl ?_
  simp_arith [d_stream_done, h]
theorem pass_badZ (h : F_queue_lengths [.fro a] = .exn 2 "at" v none) : F_least_to_pass [.fro a, .fro b] = .exn 2 "at" v none := by
  refine fd_post (R := fun x => x = .exn 2 "at" v none) rfl ?_
  simp_arith [d_least_to_pass, h]
theorem lag_badZ (h : F_queue_lengths [.fro a] = .exn 2 "at" v none) : F_queue_lag [.fro a, .fro b] = .exn 2 "at" v none := by
  refine fd_post (R := fun x => x = .exn 2 "at" v none) rfl ?_
  simp_arith [d_queue_lag, h]
theorem join_badZ (h : F_queue_lengths [.fro a] = .exn 2 "at" v none) : F_queue_join [.fro a, .fro b] = .exn 2 "at" v none := by
  refine fd_post (R := fun x => x = .exn 2 "at" v none) rfl ?_
  simp_arith [d_queue_join, h]
theorem sums_badZ (h : F_queue_lengths [.fro a] = .exn 2 "at" v none) : F_queue_sums [.fro a] = .exn 2 "at" v none := by
  refine fd_post (R := fun x => x = .exn 2 "at" v none) rfl ?_
  simp_arith [d_queue_sums, h]
end
/-- no number, or below 0 -/
def bad0 : D → Bool
  | .int n => decide (n < 0)
  | .dict _ => false
  | _ => true
theorem stream_badD {zs : List Int} {w c : D} (kn : zs ≠ []) (k1 : ∀ z ∈ zs, 1 ≤ z) (kz : zs.length ≤ 1000) (hw : bad0 w = true) (ho : okD 5 w = true) :
    F_stream_done [.fro (.tuple (iD zs)), .fro w, .fro c] = .exn 2 "at" (.tuple [tpD w, .int 0]) none := by
  refine fd_post (R := fun x => x = .exn 2 "at" (.tuple [tpD w, .int 0]) none) rfl ?_
  have hi := ini_pair (n := 0) ho
  have h2 : 2 ≤ SZ := by decide
  cases w with
  | int n =>
    have h1 : decide (n < 0) = true := hw
    simp_arith [d_stream_done, lengths_ok kn k1 kz, isint_i, h1, hi, h2]
  | dict _ => cases hw
  | none =>
    have hx := isint_d .none (fun _ z => nomatch z)
    simp_arith [d_stream_done, lengths_ok kn k1 kz, hx, isI, hi, h2]
  | bool b =>
    have hx := isint_d (.bool b) (fun _ z => nomatch z)
    simp_arith [d_stream_done, lengths_ok kn k1 kz, hx, isI, hi, h2]
  | str z =>
    have hx := isint_d (.str z) (fun _ z => nomatch z)
    simp_arith [d_stream_done, lengths_ok kn k1 kz, hx, isI, hi, h2]
  | list ds =>
    have hx := isint_d (.list ds) (fun _ z => nomatch z)
    simp_arith [d_stream_done, lengths_ok kn k1 kz, hx, isI, hi, h2]
  | tuple ds =>
    have hx := isint_d (.tuple ds) (fun _ z => nomatch z)
    simp_arith [d_stream_done, lengths_ok kn k1 kz, hx, isI, hi, h2]
theorem stream_badI {zs : List Int} {w : D} (kn : zs ≠ []) (k1 : ∀ z ∈ zs, 1 ≤ z) (kz : zs.length ≤ 1000) (hw : bad0 w = true) (ho : okD 5 w = true) :
    F_stream_done [.fro (.tuple (iD zs)), .fro (.int 0), .fro w] = .exn 2 "at" (.tuple [tpD w, .int 0]) none := by
  refine fd_post (R := fun x => x = .exn 2 "at" (.tuple [tpD w, .int 0]) none) rfl ?_
  have hi := ini_pair (n := 0) ho
  have h2 : 2 ≤ SZ := by decide
  have h00 : decide ((0 : Int) < 0) = false := rfl
  have h0 := isint_i 0
  cases w with
  | int n =>
    have h1 : decide (n < 0) = true := hw
    simp_arith [d_stream_done, lengths_ok kn k1 kz, isint_i, h1, hi, h2, h00]
  | dict _ => cases hw
  | none =>
    have hx := isint_d .none (fun _ z => nomatch z)
    simp_arith [d_stream_done, lengths_ok kn k1 kz, hx, isI, hi, h2, h00, h0]
  | bool b =>
    have hx := isint_d (.bool b) (fun _ z => nomatch z)
    simp_arith [d_stream_done, lengths_ok kn k1 kz, hx, isI, hi, h2, h00, h0]
  | str z =>
    have hx := isint_d (.str z) (fun _ z => nomatch z)
    simp_arith [d_stream_done, lengths_ok kn k1 kz, hx, isI, hi, h2, h00, h0]
  | list ds =>
    have hx := isint_d (.list ds) (fun _ z => nomatch z)
    simp_arith [d_stream_done, lengths_ok kn k1 kz, hx, isI, hi, h2, h00, h0]
  | tuple ds =>
    have hx := isint_d (.tuple ds) (fun _ z => nomatch z)
    simp_arith [d_stream_done, lengths_ok kn k1 kz, hx, isI, hi, h2, h00, h0]
theorem lag_badD {zs : List Int} {w : D} (kn : zs ≠ []) (k1 : ∀ z ∈ zs, 1 ≤ z) (kz : zs.length ≤ 1000) (hw : badW w = true) (ho : okD 5 w = true) :
    F_queue_lag [.fro (.tuple (iD zs)), .fro w] = .exn 2 "at" (.tuple [tpD w, .int 0]) none := by
  refine fd_post (R := fun x => x = .exn 2 "at" (.tuple [tpD w, .int 0]) none) rfl ?_
  have hi := ini_pair (n := 0) ho
  have h2 : 2 ≤ SZ := by decide
  cases w with
  | int n =>
    have h1 : decide (n < 1) = true := hw
    simp_arith [d_queue_lag, lengths_ok kn k1 kz, isint_i, h1, hi, h2]
  | dict _ => cases hw
  | none =>
    have hx := isint_d .none (fun _ z => nomatch z)
    simp_arith [d_queue_lag, lengths_ok kn k1 kz, hx, isI, hi, h2]
  | bool b =>
    have hx := isint_d (.bool b) (fun _ z => nomatch z)
    simp_arith [d_queue_lag, lengths_ok kn k1 kz, hx, isI, hi, h2]
  | str z =>
    have hx := isint_d (.str z) (fun _ z => nomatch z)
    simp_arith [d_queue_lag, lengths_ok kn k1 kz, hx, isI, hi, h2]
  | list ds =>
    have hx := isint_d (.list ds) (fun _ z => nomatch z)
    simp_arith [d_queue_lag, lengths_ok kn k1 kz, hx, isI, hi, h2]
  | tuple ds =>
    have hx := isint_d (.tuple ds) (fun _ z => nomatch z)
    simp_arith [d_queue_lag, lengths_ok kn k1 kz, hx, isI, hi, h2]
def badI : D → Bool
  | .int n => false
  | .dict _ => false
  | _ => true
theorem pass_badH {zs : List Int} {w : D} (kn : zs ≠ []) (k1 : ∀ z ∈ zs, 1 ≤ z) (kz : zs.length ≤ 1000) (hw : badI w = true) (ho : okD 5 w = true) :
    F_least_to_pass [.fro (.tuple (iD zs)), .fro w] = .exn 2 "at" (.tuple [tpD w, .int 0]) none := by
  refine fd_post (R := fun x => x = .exn 2 "at" (.tuple [tpD w, .int 0]) none) rfl ?_
  have hi := ini_pair (n := 0) ho
  have h2 : 2 ≤ SZ := by decide
  cases w with
  | int n => cases hw
  | dict _ => cases hw
  | none =>
    have hx := isint_d .none (fun _ z => nomatch z)
    simp_arith [d_least_to_pass, lengths_ok kn k1 kz, hx, isI, hi, h2]
  | bool b =>
    have hx := isint_d (.bool b) (fun _ z => nomatch z)
    simp_arith [d_least_to_pass, lengths_ok kn k1 kz, hx, isI, hi, h2]
  | str z =>
    have hx := isint_d (.str z) (fun _ z => nomatch z)
    simp_arith [d_least_to_pass, lengths_ok kn k1 kz, hx, isI, hi, h2]
  | list ds =>
    have hx := isint_d (.list ds) (fun _ z => nomatch z)
    simp_arith [d_least_to_pass, lengths_ok kn k1 kz, hx, isI, hi, h2]
  | tuple ds =>
    have hx := isint_d (.tuple ds) (fun _ z => nomatch z)
    simp_arith [d_least_to_pass, lengths_ok kn k1 kz, hx, isI, hi, h2]
theorem join_bad {ys zs : List Int} {w : D} {r : List D} (kn : ys ≠ []) (k1 : ∀ z ∈ ys, 1 ≤ z) (kz : ys.length ≤ 1000) (h : ∀ z ∈ zs, 1 ≤ z) (hw : badW w = true) (hz : zs.length + r.length ≤ 1000) :
    F_queue_join [.fro (.tuple (iD ys)), .fro (.tuple (iD zs ++ w :: r))] = .exn 2 "at" (.tuple [.int zs.length, .int (-1)]) none := by
  refine fd_post (R := fun x => x = .exn 2 "at" (.tuple [.int zs.length, .int (-1)]) none) rfl ?_
  have h2 : 2 ≤ SZ := by decide
  have hlen : (iD zs ++ w :: r).length = zs.length + (r.length + 1) := by rw [List.length_append, iD_len, List.length_cons]
  have hl : decide (((iD zs ++ w :: r).length : Int) = 0) = false := decide_eq_false (by rw [hlen]; omega)
  have hr : rOk ((iD zs ++ w :: r).length : Int) = true := rOk_small (by omega) (by rw [hlen]; omega)
  have hlr : (rngL 0 ((iD zs ++ w :: r).length : Int).toNat).length = zs.length + (r.length + 1) := by rw [rngL_len, hlen]; omega
  simp_arith [d_queue_join, lengths_ok kn k1 kz, hl, hr]
  refine for_wp (fun i g => i ≤ zs.length ∧ ∃ o, g = [.fro (.tuple (iD ys)), .fro (.tuple (iD zs ++ w :: r)), .fro (.tuple (iD ys)), opn o]) ⟨Nat.zero_le _, none, rfl⟩ ?_ ?_
  · rintro i d g hi ⟨hle, o, rfl⟩
    obtain ⟨rfl, hlt⟩ := rngL_at hi
    by_cases hi2 : i < zs.length
    · have hx : atI (iD zs ++ w :: r) (i : Int) = some (.int zs[i]) := by
        rw [Mw.atI_nat (by omega) (by rw [hlen]; omega), show ((i : Int)).toNat = i by omega, List.getElem?_append_left (by rw [iD_len]; exact hi2)]
        unfold iD
        rw [List.getElem?_map, List.getElem?_eq_getElem hi2]; rfl
      have h1 : decide (zs[i] < 1) = false := decide_eq_false (by have := h _ (List.getElem_mem hi2); omega)
      simp_arith [hx, isint_i, h1]
      exact ⟨hi2, some _, rfl⟩
    · have ei : i = zs.length := by omega
      subst ei
      have hx : atI (iD zs ++ w :: r) (zs.length : Int) = some w := by
        rw [Mw.atI_nat (by omega) (by rw [hlen]; omega), show ((zs.length : Int)).toNat = zs.length by omega, List.getElem?_append_right (by rw [iD_len]; exact Nat.le_refl _), iD_len, Nat.sub_self]; rfl
      cases w with
      | int n =>
        have h1 : decide (n < 1) = true := hw
        simp_arith [hx, isint_i, h1, ini_pairII, h2]
      | dict _ => cases hw
      | none =>
        have hi := isint_d .none (fun _ z => nomatch z)
        simp_arith [hx, hi, isI, ini_pairII, h2]
      | bool b =>
        have hi := isint_d (.bool b) (fun _ z => nomatch z)
        simp_arith [hx, hi, isI, ini_pairII, h2]
      | str z =>
        have hi := isint_d (.str z) (fun _ z => nomatch z)
        simp_arith [hx, hi, isI, ini_pairII, h2]
      | list ds =>
        have hi := isint_d (.list ds) (fun _ z => nomatch z)
        simp_arith [hx, hi, isI, ini_pairII, h2]
      | tuple ds =>
        have hi := isint_d (.tuple ds) (fun _ z => nomatch z)
        simp_arith [hx, hi, isI, ini_pairII, h2]
  · rintro g ⟨hle, _⟩
    omega
section
variable {ys : List Int}
theorem join_none (kn : ys ≠ []) (k1 : ∀ z ∈ ys, 1 ≤ z) (kz : ys.length ≤ 1000) : F_queue_join [.fro (.tuple (iD ys)), .fro .none] = .exn 2 "at" (.tuple [.int (-1), .int (-1)]) none := by
  refine fd_post (R := fun x => x = .exn 2 "at" (.tuple [.int (-1), .int (-1)]) none) rfl ?_
  have h2 : 2 ≤ SZ := by decide
  simp_arith [d_queue_join, lengths_ok kn k1 kz, ini_pairII, h2]
theorem join_str (x : Str) (kn : ys ≠ []) (k1 : ∀ z ∈ ys, 1 ≤ z) (kz : ys.length ≤ 1000) : F_queue_join [.fro (.tuple (iD ys)), .fro (.str x)] = .exn 2 "at" (.tuple [.int (-1), .int (-1)]) none := by
  refine fd_post (R := fun x => x = .exn 2 "at" (.tuple [.int (-1), .int (-1)]) none) rfl ?_
  have h2 : 2 ≤ SZ := by decide
  simp_arith [d_queue_join, lengths_ok kn k1 kz, ini_pairII, h2]
theorem join_nil (kn : ys ≠ []) (k1 : ∀ z ∈ ys, 1 ≤ z) (kz : ys.length ≤ 1000) : F_queue_join [.fro (.tuple (iD ys)), .fro (.tuple [])] = .exn 2 "at" (.tuple [.int (-1), .int (-1)]) none := by
  refine fd_post (R := fun x => x = .exn 2 "at" (.tuple [.int (-1), .int (-1)]) none) rfl ?_
  have h2 : 2 ≤ SZ := by decide
  have h0 : decide (((0 : Nat) : Int) = 0) = true := rfl
  simp_arith [d_queue_join, lengths_ok kn k1 kz, ini_pairII, h2, h0]
end
/-- what is no row of lengths, and where that is seen -/
inductive BadArg : D → Int → Prop
  | n : BadArg .none (-1)
  | s (x : Str) : BadArg (.str x) (-1)
  | e : BadArg (.tuple []) (-1)
  | c {zs : List Int} {w : D} {r : List D} (h : ∀ z ∈ zs, 1 ≤ z) (hw : badW w = true) (hz : zs.length + r.length ≤ 1000) : BadArg (.tuple (iD zs ++ w :: r)) zs.length
theorem BadArg.len {b : D} {a : Int} (h : BadArg b a) : F_queue_lengths [.fro b] = .exn 2 "at" (.int a) none := by
  cases h with
  | n => exact lengths_none
  | s x => exact lengths_str x
  | e => exact lengths_nil
  | c h hw hz => exact lengths_bad h hw hz
theorem BadArg.join {b : D} {a : Int} {ys : List Int} (h : BadArg b a) (kn : ys ≠ []) (k1 : ∀ z ∈ ys, 1 ≤ z) (kz : ys.length ≤ 1000) : F_queue_join [.fro (.tuple (iD ys)), .fro b] = .exn 2 "at" (.tuple [.int a, .int (-1)]) none := by
  cases h with
  | n => exact join_none kn k1 kz
  | s x => exact join_str x kn k1 kz
  | e => exact join_nil kn k1 kz
  | c h hw hz => exact join_bad kn k1 kz h hw hz
theorem times_b0 : F_queue_times [.fro .none] = .exn 3 "at" (.int (-1)) none := by
  refine fd_post (R := fun x => x = .exn 3 "at" (.int (-1)) none) rfl ?_
  simp_arith [d_queue_times, row_i]
theorem times_b1 : F_queue_times [.fro (.tuple [])] = .exn 3 "at" (.int (-1)) none := by
  refine fd_post (R := fun x => x = .exn 3 "at" (.int (-1)) none) rfl ?_
  have h0 : decide (((0 : Nat) : Int) = 0) = true := rfl
  simp_arith [d_queue_times, row_i, h0]
theorem times_b2 : F_queue_times [.fro (.tuple [.int 5, .int 4])] = .exn 3 "at" (.int 1) none := by rfl
theorem times_b3 : F_queue_times [.fro (.tuple [.int 5, .none])] = .exn 3 "at" (.int 1) none := by rfl
theorem times_b4 : F_queue_times [.fro (.tuple [.bool true, .int 5])] = .exn 3 "at" (.int 0) none := by rfl
end G82
namespace G82
open PySem L2 Mw
/-! ## plain: sums, greatest ones, scaling, joining -/
theorem fold_max : ∀ (l : List Int) (a : Int), (l.foldl (fun a b => if b > a then b else a) a = a ∨ l.foldl (fun a b => if b > a then b else a) a ∈ l) ∧ a ≤ l.foldl (fun a b => if b > a then b else a) a ∧ ∀ z ∈ l, z ≤ l.foldl (fun a b => if b > a then b else a) a
  | [], a => ⟨.inl rfl, Int.le_refl _, fun _ h => nomatch h⟩
  | x :: l, a => by
    rw [List.foldl_cons]
    obtain ⟨h1, h2, h3⟩ := fold_max l (if x > a then x else a)
    refine ⟨?_, ?_, ?_⟩
    · rcases h1 with h1 | h1
      · rw [h1]
        by_cases c : x > a
        · rw [if_pos c]; exact .inr (List.mem_cons_self ..)
        · rw [if_neg c]; exact .inl rfl
      · exact .inr (List.mem_cons_of_mem _ h1)
    · refine Int.le_trans ?_ h2
      by_cases c : x > a
      · rw [if_pos c]; omega
      · rw [if_neg c]; omega
    · intro z hz
      rcases List.mem_cons.mp hz with rfl | hz
      · refine Int.le_trans ?_ h2
        by_cases c : z > a
        · rw [if_pos c]; omega
        · rw [if_neg c]; omega
      · exact h3 z hz
theorem maxL_spec {zs : List Int} (kn : zs ≠ []) : maxL zs ∈ zs ∧ ∀ z ∈ zs, z ≤ maxL zs := by
  cases zs with
  | nil => exact absurd rfl kn
  | cons x l =>
    obtain ⟨h1, h2, h3⟩ := fold_max l x
    refine ⟨?_, fun z hz => ?_⟩
    · show l.foldl _ x ∈ _
      rcases h1 with h1 | h1
      · rw [h1]; exact List.mem_cons_self ..
      · exact List.mem_cons_of_mem _ h1
    · rcases List.mem_cons.mp hz with rfl | hz
      · exact h2
      · exact h3 z hz
theorem maxL_eq {zs : List Int} {m : Int} (hm : m ∈ zs) (h : ∀ z ∈ zs, z ≤ m) : maxL zs = m := by
  have kn : zs ≠ [] := by rintro rfl; cases hm
  obtain ⟨h1, h2⟩ := maxL_spec kn
  have := h _ h1
  have := h2 _ hm
  omega
theorem maxL_same {a b : List Int} (kn : a ≠ []) (h : ∀ z, z ∈ a ↔ z ∈ b) : maxL b = maxL a :=
  maxL_eq ((h _).mp (maxL_spec kn).1) fun z hz => (maxL_spec kn).2 z ((h z).mpr hz)
theorem maxL_app {a b : List Int} (ka : a ≠ []) (kb : b ≠ []) : maxL (a ++ b) = if maxL b > maxL a then maxL b else maxL a := by
  obtain ⟨a1, a2⟩ := maxL_spec ka
  obtain ⟨b1, b2⟩ := maxL_spec kb
  by_cases c : maxL b > maxL a
  · rw [if_pos c]
    refine maxL_eq (List.mem_append_right _ b1) fun z hz => ?_
    rcases List.mem_append.mp hz with hz | hz
    · have := a2 z hz; omega
    · exact b2 z hz
  · rw [if_neg c]
    refine maxL_eq (List.mem_append_left _ a1) fun z hz => ?_
    rcases List.mem_append.mp hz with hz | hz
    · exact a2 z hz
    · have := b2 z hz; omega
theorem sum_app : ∀ a b : List Int, (a ++ b).sum = a.sum + b.sum
  | [], b => by simp
  | x :: a, b => by rw [List.cons_append, List.sum_cons, List.sum_cons, sum_app a b]; omega
theorem sum_rev : ∀ a : List Int, a.reverse.sum = a.sum
  | [] => rfl
  | x :: a => by rw [List.reverse_cons, sum_app, sum_rev a, List.sum_cons, List.sum_cons]; simp; omega
def byL (b : Int) (l : List Int) : List Int := l.map (b * ·)
theorem byL_sum (b : Int) : ∀ l : List Int, (byL b l).sum = b * l.sum
  | [] => by simp [byL]
  | x :: l => by
    have := byL_sum b l
    show (b * x :: byL b l).sum = _
    rw [List.sum_cons, List.sum_cons, this, Int.mul_add]
theorem byL_max {b : Int} (hb : 0 < b) {l : List Int} (kn : l ≠ []) : maxL (byL b l) = b * maxL l := by
  obtain ⟨h1, h2⟩ := maxL_spec kn
  refine maxL_eq (List.mem_map.mpr ⟨_, h1, rfl⟩) fun z hz => ?_
  obtain ⟨x, hx, rfl⟩ := List.mem_map.mp hz
  exact Int.mul_le_mul_of_nonneg_left (h2 x hx) (Int.le_of_lt hb)
theorem byL_getD (b : Int) (l : List Int) (i : Nat) : (byL b l).getD i 0 = b * l.getD i 0 := by
  unfold byL
  rw [List.getD_eq_getElem?_getD, List.getD_eq_getElem?_getD, List.getElem?_map]
  cases l[i]? with
  | none => simp
  | some x => rfl
theorem due_by {b S M : Int} (hb : 0 < b) (ts : List Int) : ∀ k, due (b * S) (b * M) (byL b ts) k = b * due S M ts k
  | 0 => by
    show (byL b ts).getD 0 0 + b * S = b * (ts.getD 0 0 + S)
    rw [byL_getD, Int.mul_add]
  | k + 1 => by
    show (if due (b * S) (b * M) (byL b ts) k + b * M > (byL b ts).getD (k + 1) 0 + b * S then due (b * S) (b * M) (byL b ts) k + b * M else (byL b ts).getD (k + 1) 0 + b * S) = b * (if due S M ts k + M > ts.getD (k + 1) 0 + S then due S M ts k + M else ts.getD (k + 1) 0 + S)
    rw [due_by hb ts k, byL_getD, ← Int.mul_add, ← Int.mul_add]
    by_cases c : due S M ts k + M > ts.getD (k + 1) 0 + S
    · rw [if_pos c, if_pos (Int.mul_lt_mul_of_pos_left c hb)]
    · rw [if_neg c, if_neg]
      have := Int.mul_le_mul_of_nonneg_left (Int.not_lt.mp c) (Int.le_of_lt hb)
      omega
theorem due_up {S M : Int} (hM : 0 ≤ M) (ts : List Int) (k : Nat) : due S M ts k ≤ due S M ts (k + 1) := by
  show _ ≤ if due S M ts k + M > ts.getD (k + 1) 0 + S then due S M ts k + M else ts.getD (k + 1) 0 + S
  split <;> omega
theorem due_ge {S M : Int} (ts : List Int) : ∀ k, ts.getD k 0 + S ≤ due S M ts k
  | 0 => Int.le_refl _
  | k + 1 => by
    show _ ≤ if due S M ts k + M > ts.getD (k + 1) 0 + S then due S M ts k + M else ts.getD (k + 1) 0 + S
    split <;> omega
theorem due_le {S M T : Int} (hM : 0 ≤ M) (ts : List Int) (hT : ∀ i, ts.getD i 0 ≤ T) : ∀ k : Nat, due S M ts k ≤ T + S + k * M
  | 0 => by
    have h0 := hT 0
    have e : ((0 : Nat) : Int) * M = 0 := by simp
    show ts.getD 0 0 + S ≤ T + S + ((0 : Nat) : Int) * M
    rw [e]; omega
  | k + 1 => by
    have h1 := due_le (S := S) hM ts hT k
    have h2 := hT (k + 1)
    have e : ((k + 1 : Nat) : Int) * M = (k : Int) * M + M := by rw [Int.natCast_add, Int.add_mul]; simp
    have hp : 0 ≤ (k : Int) * M := Int.mul_nonneg (by omega) hM
    show (if due S M ts k + M > ts.getD (k + 1) 0 + S then due S M ts k + M else ts.getD (k + 1) 0 + S) ≤ _
    split <;> omega
theorem dues_getD {S M : Int} {ts : List Int} {n i : Nat} (h : i < n) : (dues S M ts n).getD i 0 = due S M ts i := by
  unfold dues
  rw [List.getD_eq_getElem?_getD, List.getElem?_map, List.getElem?_range h]; rfl
theorem dues_up {S M : Int} (hM : 0 ≤ M) (ts : List Int) (n : Nat) : Up (dues S M ts n) := by
  intro i hi
  rw [dues_len] at hi
  rw [dues_getD (by omega), dues_getD hi]
  exact due_up hM ts i
/-! joining -/
theorem N_s0 (t z : Nat → Int) (k : Nat) : N t z k 0 = t k := by cases k <;> rfl
theorem N_0s (t z : Nat → Int) (g : Nat) : N t z 0 (g + 1) = N t z 0 g + z g := rfl
theorem N_ss (t z : Nat → Int) (k g : Nat) : N t z (k + 1) (g + 1) = pmax (N t z (k + 1) g) (N t z k (g + 1)) + z g := rfl
theorem N_cg {t t' z z' : Nat → Int} : ∀ k g, (∀ i, i ≤ k → t i = t' i) → (∀ i, i < g → z i = z' i) → N t z k g = N t' z' k g
  | k, 0, ht, hz => by rw [N_s0, N_s0]; exact ht k (Nat.le_refl _)
  | 0, g + 1, ht, hz => by
    rw [N_0s, N_0s, N_cg 0 g ht (fun i hi => hz i (by omega)), hz g (by omega)]
  | k + 1, g + 1, ht, hz => by
    rw [N_ss, N_ss, N_cg (k + 1) g ht (fun i hi => hz i (by omega)), N_cg k (g + 1) (fun i hi => ht i (by omega)) hz, hz g (by omega)]
theorem N_app {t z y zy : Nat → Int} {n : Nat} (hz : ∀ g, g < n → zy g = z g) (hy : ∀ g, zy (n + g) = y g) : ∀ k g, N t zy k (n + g) = N (fun i => N t z i n) y k g
  | k, 0 => by rw [N_s0]; exact N_cg k n (fun _ _ => rfl) hz
  | 0, g + 1 => by
    rw [N_0s, ← N_app hz hy 0 g, ← hy g]; rfl
  | k + 1, g + 1 => by
    rw [N_ss, ← N_app hz hy (k + 1) g, ← N_app hz hy k (g + 1), ← hy g]; rfl
theorem due_join {ts zs ys : List Int} {n k : Nat} (kz : zs ≠ []) (ky : ys ≠ []) (hk : k < n) : due ys.sum (maxL ys) (dues zs.sum (maxL zs) ts n) k = due (zs ++ ys).sum (maxL (zs ++ ys)) ts k := by
  rw [due_DD ky, due_DD (by simp [kz]), List.length_append, N_app (z := fun g => zs.getD g 0) (y := fun g => ys.getD g 0)]
  · refine N_cg k _ (fun i hi => ?_) fun _ _ => rfl
    rw [dues_getD (by omega), due_DD kz]
  · intro g hg
    show (zs ++ ys).getD g 0 = zs.getD g 0
    rw [List.getD_eq_getElem?_getD, List.getD_eq_getElem?_getD, List.getElem?_append_left hg]
  · intro g
    show (zs ++ ys).getD (zs.length + g) 0 = ys.getD g 0
    rw [List.getD_eq_getElem?_getD, List.getD_eq_getElem?_getD, List.getElem?_append_right (by omega), Nat.add_sub_cancel_left]
/-! even streams -/
theorem due_even {S M d : Int} {ts : List Int} {n : Nat} (h : ∀ i, i < n → ts.getD i 0 = d * i) : ∀ k, k < n → due S M ts k = S + k * (if M > d then M else d)
  | 0, hk => by
    show ts.getD 0 0 + S = _
    rw [h 0 hk]; simp
  | k + 1, hk => by
    have ih := due_even (S := S) (M := M) h k (by omega)
    show (if due S M ts k + M > ts.getD (k + 1) 0 + S then due S M ts k + M else ts.getD (k + 1) 0 + S) = _
    rw [ih, h (k + 1) hk]
    have e1 : ∀ x : Int, ((k + 1 : Nat) : Int) * x = (k : Int) * x + x := fun x => by rw [Int.natCast_add, Int.add_mul]; simp
    have e2 : d * ((k + 1 : Nat) : Int) = (k : Int) * d + d := by rw [Int.mul_comm, e1]
    rw [e1, e2]
    by_cases c : M > d
    · rw [if_pos c]
      have hp : (k : Int) * d ≤ (k : Int) * M := Int.mul_le_mul_of_nonneg_left (by omega) (by omega)
      rw [if_pos (by omega)]; omega
    · rw [if_neg c]
      by_cases c2 : M = d
      · subst c2; rw [if_neg (by omega)]; omega
      · rw [if_neg (by omega)]; omega
/-! the draws -/
theorem pickI {L : List Int} {r : Int} (h0 : 0 ≤ r) (h1 : r < L.length) : ∃ n, atI (iD L) r = some (.int n) ∧ n ∈ L := by
  obtain ⟨k, rfl⟩ : ∃ k : Nat, r = k := ⟨r.toNat, by omega⟩
  have hk : k < L.length := by omega
  exact ⟨L[k], iD_get hk, List.getElem_mem hk⟩
theorem pick {L : List D} {r : Int} (h0 : 0 ≤ r) (h1 : r < L.length) : ∃ d, atI L r = some d ∧ d ∈ L := by
  obtain ⟨k, rfl⟩ : ∃ k : Nat, r = k := ⟨r.toNat, by omega⟩
  have hk : k < L.length := by omega
  exact ⟨L[k], by rw [Mw.atI_nat (by omega) (by omega), show ((k : Int)).toNat = k by omega, List.getElem?_eq_getElem hk], List.getElem_mem hk⟩
theorem ltake {ds : List D} {m : Int} (hm : 0 < m) (T : Tape ds) : ∃ r ds', F__law_take [.bor ds, .fro (.int m)] = .ok (.fro (.int r)) (some ds') ∧ 0 ≤ r ∧ r < m ∧ Tape ds' := by
  rw [e_take]; exact take_ok hm T
/-- a row as the law draws it -/
def GZ (zs : List Int) : Prop := zs ≠ [] ∧ (∀ z ∈ zs, 1 ≤ z ∧ z ≤ 9) ∧ zs.length ≤ 6
theorem z_row_ok {T : List D} {f : Int} (hT : Tape T) (hf : 1 ≤ f ∧ f ≤ 9) : ∃ zs T', F__law_z_row [.bor T, .fro (.int f)] = .ok (.fro (.tuple (iD zs))) (some T') ∧ GZ zs ∧ Tape T' := by
  refine fd_post (R := fun r => ∃ zs T', r = .ok (.fro (.tuple (iD zs))) (some T') ∧ GZ zs ∧ Tape T') rfl ?_
  have h0 : 0 ≤ SZ := Nat.zero_le _
  have h5 : 5 ≤ SZ := by decide
  have h6 : 6 ≤ SZ := by decide
  obtain ⟨r, T1, e1, r0, r1, hT1⟩ := ltake (m := 5) (by decide) hT
  obtain ⟨n, hn, nm⟩ := pickI (L := [2, 1, 3, 4, 6]) r0 r1
  have hn2 : atI [PyData.int 2, .int 1, .int 3, .int 4, .int 6] r = some (.int n) := hn
  have nb : 1 ≤ n ∧ n ≤ 6 := by
    simp only [List.mem_cons, List.not_mem_nil, or_false] at nm
    omega
  have hr : rOk n = true := rOk_small (by omega) (by omega)
  have hlr : (rngL 0 n.toNat).length = n.toNat := rngL_len ..
  simp_arith [d__law_z_row, h0, h5, e1, hn2, hr]
  refine for_nx (fun i g => ∃ zs T' o3, g = [.bor T', .fro (.int f), .own (iD zs), opn o3] ∧ zs.length = i ∧ (∀ z ∈ zs, 1 ≤ z ∧ z ≤ 9) ∧ Tape T') ⟨[], T1, none, rfl, rfl, (fun _ h => nomatch h), hT1⟩ ?_ ?_
  · rintro i d g hi ⟨zs, T', o3, rfl, hl, hz, hT'⟩
    obtain ⟨rfl, hlt⟩ := rngL_at hi
    obtain ⟨r2, T2, e2, r20, r21, hT2⟩ := ltake (m := 6) (by decide) hT'
    obtain ⟨z, hz2, zm⟩ := pickI (L := [f, 1, 3, 2, 5, 9]) r20 r21
    have hz3 : atI [PyData.int f, .int 1, .int 3, .int 2, .int 5, .int 9] r2 = some (.int z) := hz2
    have zb : 1 ≤ z ∧ z ≤ 9 := by
      simp only [List.mem_cons, List.not_mem_nil, or_false] at zm
      omega
    have hs : (iD zs).length < SZ := by
      have : SZ = 16777216 := rfl
      rw [iD_len]; omega
    simp_arith [h6, e2, hz3, hs]
    refine ⟨zs ++ [z], T2, some _, by rw [iD_app]; rfl, by simp [hl], fun x hx => ?_, hT2⟩
    rcases List.mem_append.mp hx with hx | hx
    · exact hz x hx
    · rw [List.mem_singleton.mp hx]; exact zb
  · rintro g ⟨zs, T', o3, rfl, hl, hz, hT'⟩
    simp_arith []
    rw [hlr] at hl
    refine ⟨_, rfl, zs, T', rfl, ⟨?_, hz, by omega⟩, hT'⟩
    rintro rfl
    simp at hl; omega
/-- times as the law draws them -/
def GT (ts : List Int) : Prop := ts ≠ [] ∧ Up ts ∧ (∀ i, -7 ≤ ts.getD i 0 ∧ ts.getD i 0 ≤ 10000000000000000000000063) ∧ ts.length ≤ 10
theorem pow25 : powD (.int 10) (.int 25) = some (.val (.int 10000000000000000000000000)) := rfl
theorem pow4 : powD (.int 10) (.int 4) = some (.val (.int 10000)) := rfl
theorem getD_app_l {l : List Int} {x : Int} {i : Nat} (h : i < l.length) : (l ++ [x]).getD i 0 = l.getD i 0 := by
  rw [List.getD_eq_getElem?_getD, List.getD_eq_getElem?_getD, List.getElem?_append_left h]
theorem getD_app_r {l : List Int} {x : Int} : (l ++ [x]).getD l.length 0 = x := by
  rw [List.getD_eq_getElem?_getD, List.getElem?_append_right (Nat.le_refl _), Nat.sub_self]; rfl
theorem getD_far {l : List Int} {i : Nat} (h : l.length ≤ i) : l.getD i 0 = 0 := by
  rw [List.getD_eq_getElem?_getD, List.getElem?_eq_none h]; rfl
theorem tied_ok {T : List D} (hT : Tape T) : ∃ ts T', F__law_tied [.bor T] = .ok (.fro (.tuple (iD ts))) (some T') ∧ GT ts ∧ Tape T' := by
  refine fd_post (R := fun r => ∃ ts T', r = .ok (.fro (.tuple (iD ts))) (some T') ∧ GT ts ∧ Tape T') rfl ?_
  have h1s : 1 ≤ SZ := by decide
  have h4 : 4 ≤ SZ := by decide
  have h5 : 5 ≤ SZ := by decide
  obtain ⟨r, T1, e1, r0, r1, hT1⟩ := ltake (m := 4) (by decide) hT
  obtain ⟨a, ha, am⟩ := pickI (L := [0, 3, -7, 10000000000000000000000000]) r0 r1
  have ha2 : atI [PyData.int 0, .int 3, .int (-7), .int 10000000000000000000000000] r = some (.int a) := ha
  have ab : -7 ≤ a ∧ a ≤ 10000000000000000000000000 := by
    simp only [List.mem_cons, List.not_mem_nil, or_false] at am
    omega
  obtain ⟨r2, T2, e2, r20, r21, hT2⟩ := ltake (m := 5) (by decide) hT1
  obtain ⟨n, hn, nm⟩ := pickI (L := [3, 0, 1, 5, 9]) r20 r21
  have hn2 : atI [PyData.int 3, .int 0, .int 1, .int 5, .int 9] r2 = some (.int n) := hn
  have nb : 0 ≤ n ∧ n ≤ 9 := by
    simp only [List.mem_cons, List.not_mem_nil, or_false] at nm
    omega
  have hr : rOk n = true := rOk_small (by omega) (by omega)
  have hlr : (rngL 0 n.toNat).length = n.toNat := rngL_len ..
  simp_arith [d__law_tied, h1s, h4, h5, e1, ha2, e2, hn2, hr, pow25]
  refine for_nx (fun i g => ∃ ts T' o3, g = [.bor T', .own (iD ts), opn o3] ∧ ts.length = i + 1 ∧ Up ts ∧ (∀ i, -7 ≤ ts.getD i 0) ∧ (∀ j, ts.getD j 0 ≤ 10000000000000000000000000 + 7 * i) ∧ Tape T') ⟨[a], T2, none, rfl, rfl, fun i hi => ?_, fun i => ?_, fun i => ?_, hT2⟩ ?_ ?_
  · simp at hi
  · cases i with
    | zero => exact ab.1
    | succ i => simp
  · cases i with
    | zero => exact ab.2
    | succ i => simp
  · rintro i d g hi ⟨ts, T', o3, rfl, hl, hu, hlo, hhi, hT'⟩
    obtain ⟨rfl, hlt⟩ := rngL_at hi
    obtain ⟨r3, T3, e3, r30, r31, hT3⟩ := ltake (m := 5) (by decide) hT'
    obtain ⟨x, hx, xm⟩ := pickI (L := [0, 1, 0, 3, 7]) r30 r31
    have hx2 : atI [PyData.int 0, .int 1, .int 0, .int 3, .int 7] r3 = some (.int x) := hx
    have xb : 0 ≤ x ∧ x ≤ 7 := by
      simp only [List.mem_cons, List.not_mem_nil, or_false] at xm
      omega
    have hs : (iD ts).length < SZ := by
      have : SZ = 16777216 := rfl
      rw [iD_len]; omega
    have hti : atI (iD ts) (i : Int) = some (.int (ts.getD i 0)) := by
      rw [iD_get (by omega), List.getD_eq_getElem?_getD, List.getElem?_eq_getElem (by omega : i < ts.length)]; rfl
    simp_arith [h5, e3, hx2, hs, hti]
    have a1 := hlo i
    have a2 := hhi i
    refine ⟨ts ++ [ts.getD i 0 + x], T3, some _, by rw [iD_app]; rfl, by simp [hl], ?_, ?_, ?_, hT3⟩
    · intro j hj
      rw [List.length_append, hl, List.length_singleton] at hj
      by_cases c : j + 1 < ts.length
      · rw [getD_app_l (by omega), getD_app_l c]; exact hu j c
      · obtain rfl : j = i := by omega
        rw [getD_app_l (by omega), show j + 1 = ts.length by omega, getD_app_r]; omega
    · intro j
      by_cases c : j < ts.length
      · rw [getD_app_l c]; exact hlo j
      · by_cases c2 : j = ts.length
        · subst c2; rw [getD_app_r]; omega
        · rw [getD_far (by simp; omega)]; omega
    · intro j
      by_cases c : j < ts.length
      · rw [getD_app_l c]; have := hhi j; omega
      · by_cases c2 : j = ts.length
        · subst c2; rw [getD_app_r]; omega
        · rw [getD_far (by simp; omega)]; omega
  · rintro g ⟨ts, T', o3, rfl, hl, hu, hlo, hhi, hT'⟩
    simp_arith []
    rw [hlr] at hl hhi
    refine ⟨_, rfl, ts, T', rfl, ⟨?_, hu, fun i => ⟨hlo i, ?_⟩, by omega⟩, hT'⟩
    · rintro rfl
      simp at hl
    · have := hhi i; omega
end G82
namespace G82
open PySem L2 Mw
theorem pl_told : plB (.str "told") = true := by decide +kernel
theorem pl_end : plB (.str "endless") = true := by decide +kernel
theorem pl_num : plB (.str "number") = true := by decide +kernel
theorem pl_row : plB (.str "row") = true := by decide +kernel
theorem told_i (n : Int) : F__law_just [.fro (.tuple [.str "told", .int n]), .fro (.tuple [.str "told", .int n])] = .ok (.fro (.bool true)) none := by
  rw [e_just]
  exact just_ok (by rw [plB, plA, pl_told]; rfl) (by simp [szD, szA])
theorem just_i (n : Int) : F__law_just [.fro (.int n), .fro (.int n)] = .ok (.fro (.bool true)) none := by
  rw [e_just]
  exact just_ok (by rw [plB]) (by simp [szD, szA])
theorem told_end : F__law_just [.fro (.tuple [.str "told", .str "endless"]), .fro (.tuple [.str "told", .str "endless"])] = .ok (.fro (.bool true)) none := by
  rw [e_just]
  exact just_ok (by rw [plB, plA, pl_told, plA, pl_end]; rfl) (by simp [szD, szA])
theorem told_p (a b : Int) : F__law_just [.fro (.tuple [.str "told", .tuple [.int a, .int b]]), .fro (.tuple [.str "told", .tuple [.int a, .int b]])] = .ok (.fro (.bool true)) none := by
  rw [e_just]
  exact just_ok (by rw [plB, plA, pl_told]; rfl) (by simp [szD, szA])
theorem just_num {v : D} (hp : plB v = true) (hs : szD v ≤ 1000) : F__law_just [.fro (.tuple [.str "number", .bool true, .bool false, v]), .fro (.tuple [.str "number", .bool true, .bool false, v])] = .ok (.fro (.bool true)) none := by
  rw [e_just]
  exact just_ok (by simp only [plB.eq_5, plA, pl_num, hp, plB.eq_2, Bool.and_self]) (by simp [szD, szA]; omega)
theorem just_row {v : D} (hp : plB v = true) (hs : szD v ≤ 1000) : F__law_just [.fro (.tuple [.str "row", .bool true, .bool false, v]), .fro (.tuple [.str "row", .bool true, .bool false, v])] = .ok (.fro (.bool true)) none := by
  rw [e_just]
  exact just_ok (by simp only [plB.eq_5, plA, pl_row, hp, plB.eq_2, Bool.and_self]) (by simp [szD, szA]; omega)
theorem mulA_n {x : D} {n : Int} (h1 : 1 ≤ n) (h2 : n ≤ 1000) : ∃ o, mulA (.tuple [x]) (.int n) = some o ∧ o.ev = .fro (.tuple (List.replicate n.toNat x)) := by
  by_cases c : n = 1
  · subst c
    exact ⟨_, rfl, rfl⟩
  · refine ⟨.tupN (List.replicate n.toNat [x]).flatten, ?_, ?_⟩
    · show (if n = 1 then _ else gd _ _) = _
      rw [if_neg c]
      unfold gd
      rw [decide_eq_true ⟨by simp, by omega, by omega, by simp⟩, if_pos rfl]
    · show EV.fro (.tuple (List.replicate n.toNat [x]).flatten) = _
      rw [List.flatten_replicate_singleton]
theorem mulA_l {x : D} {n : Int} (h1 : 0 ≤ n) (h2 : n ≤ 1000) : mulA (.list [x]) (.int n) = some (.lstN (List.replicate n.toNat x)) := by
  show gd _ _ = _
  unfold gd
  have e : (2 ^ 63 : Int) = 9223372036854775808 := rfl
  have hs : SZ = 16777216 := rfl
  rw [decide_eq_true ⟨by omega, by omega, by simp; omega⟩, if_pos rfl, List.flatten_replicate_singleton]
theorem closed_okL {ts zs : List Int} {i : Nat} (hn : ts ≠ []) (h : Up ts) (hz : ts.length ≤ 1000) (kn : zs ≠ []) (k1 : ∀ z ∈ zs, 1 ≤ z) (kz : zs.length ≤ 1000) (hi : i < ts.length) :
    F_closed_done [.fro (.tuple (iD ts)), .fro (.list (iD zs)), .fro (.int (i + 1 : Nat))] = .ok (.fro (.int (due zs.sum (maxL zs) ts i))) none := by
  refine fd_post (R := fun r => r = .ok (.fro (.int (due zs.sum (maxL zs) ts i))) none) rfl ?_
  have hc := change_ok (ds := iD ts) (i := ((i + 1 : Nat) : Int)) (by omega) (by rw [iD_len]; omega)
  have hx : atI (iD (dues zs.sum (maxL zs) ts ts.length)) (((i + 1 : Nat) : Int) - 1) = some (.int (due zs.sum (maxL zs) ts i)) := by
    rw [show (((i + 1 : Nat) : Int) - 1) = (i : Int) by omega, iD_get (by rw [dues_len]; exact hi)]
    unfold dues
    rw [List.getElem_map, List.getElem_range]
  simp_arith [d_closed_done, times_ok hn h hz, lengths_okL kn k1 kz, hc, dues_ok hz, sumF_i, maxF_i kn, hx]
  exact ⟨_, rfl, rfl⟩
theorem byL_len (b : Int) (l : List Int) : (byL b l).length = l.length := List.length_map _
theorem byL_ne {b : Int} {l : List Int} (h : l ≠ []) : byL b l ≠ [] := fun e => by
  have := byL_len b l
  rw [e] at this
  have := List.length_pos_iff.mpr h
  simp at *
  omega
theorem mul_ten {b : Int} {l : List Int} {x0 x1 x2 x4 x5 x6 x7 x8 x9 x11 : Sl} {Q : List D → List Sl → Prop} (hl : l.length ≤ 1000) (hm : ∀ x ∈ l, mulOk b x = true)
    (q : Q (iD (byL b l)) [x0, x1, x2, .fro (.int b), x4, x5, x6, x7, x8, x9, .un, x11]) : Post Q (fun _ _ _ _ => False) (lcL [10] (.one 10) (ret true) (op2 mulA (vr 3) (vr 10)) [] (iD l) [x0, x1, x2, .fro (.int b), x4, x5, x6, x7, x8, x9, .un, x11]) := by
  refine lc_wp (fun i acc g => g = [x0, x1, x2, .fro (.int b), x4, x5, x6, x7, x8, x9, .un, x11] ∧ acc = iD (byL b (l.take i))) ⟨rfl, rfl⟩ ?_ ?_
  · rintro i d acc g hi ⟨rfl, rfl⟩
    have hlt : i < l.length := by have := (List.getElem?_eq_some_iff.mp hi).1; rwa [iD_len] at this
    obtain rfl : d = .int l[i] := by
      unfold iD at hi
      rw [List.getElem?_map, List.getElem?_eq_getElem hlt] at hi
      exact (Option.some.inj hi).symm
    have hs : (iD (byL b (l.take i))).length < SZ := by
      have : SZ = 16777216 := rfl
      rw [iD_len, byL_len, List.length_take]; omega
    have h1 := hm _ (List.getElem_mem hlt)
    simp_arith [h1, hs]
    refine ⟨trivial, trivial, ?_⟩
    have e : l.take (i + 1) = l.take i ++ [l[i]] := by rw [List.take_append_getElem]
    rw [e]
    unfold byL iD
    rw [List.map_append, List.map_append]
    rfl
  · rintro acc g ⟨rfl, rfl⟩
    rw [iD_len, List.take_length]
    exact q
theorem mul_elv {b : Int} {l : List Int} {x0 x1 x2 x4 x5 x6 x7 x8 x9 x10 : Sl} {Q : List D → List Sl → Prop} (hl : l.length ≤ 1000) (hm : ∀ x ∈ l, mulOk b x = true)
    (q : Q (iD (byL b l)) [x0, x1, x2, .fro (.int b), x4, x5, x6, x7, x8, x9, x10, .un]) : Post Q (fun _ _ _ _ => False) (lcL [11] (.one 11) (ret true) (op2 mulA (vr 3) (vr 11)) [] (iD l) [x0, x1, x2, .fro (.int b), x4, x5, x6, x7, x8, x9, x10, .un]) := by
  refine lc_wp (fun i acc g => g = [x0, x1, x2, .fro (.int b), x4, x5, x6, x7, x8, x9, x10, .un] ∧ acc = iD (byL b (l.take i))) ⟨rfl, rfl⟩ ?_ ?_
  · rintro i d acc g hi ⟨rfl, rfl⟩
    have hlt : i < l.length := by have := (List.getElem?_eq_some_iff.mp hi).1; rwa [iD_len] at this
    obtain rfl : d = .int l[i] := by
      unfold iD at hi
      rw [List.getElem?_map, List.getElem?_eq_getElem hlt] at hi
      exact (Option.some.inj hi).symm
    have hs : (iD (byL b (l.take i))).length < SZ := by
      have : SZ = 16777216 := rfl
      rw [iD_len, byL_len, List.length_take]; omega
    have h1 := hm _ (List.getElem_mem hlt)
    simp_arith [h1, hs]
    refine ⟨trivial, trivial, ?_⟩
    have e : l.take (i + 1) = l.take i ++ [l[i]] := by rw [List.take_append_getElem]
    rw [e]
    unfold byL iD
    rw [List.map_append, List.map_append]
    rfl
  · rintro acc g ⟨rfl, rfl⟩
    rw [iD_len, List.take_length]
    exact q
theorem getD_mem {l : List Int} {x : Int} (h : x ∈ l) : ∃ i, l.getD i 0 = x ∧ i < l.length := by
  obtain ⟨i, hi, rfl⟩ := List.getElem_of_mem h
  exact ⟨i, by rw [List.getD_eq_getElem?_getD, List.getElem?_eq_getElem hi]; rfl, hi⟩
theorem sum_le : ∀ {l : List Int}, (∀ z ∈ l, 1 ≤ z ∧ z ≤ 9) → 0 ≤ l.sum ∧ l.sum ≤ 9 * l.length
  | [], _ => by simp
  | x :: l, h => by
    have h1 := h x (List.mem_cons_self ..)
    have h2 := sum_le (l := l) fun z hz => h z (List.mem_cons_of_mem _ hz)
    rw [List.sum_cons, List.length_cons]
    omega
theorem GZ.nums {zs : List Int} (h : GZ zs) : 1 ≤ maxL zs ∧ maxL zs ≤ 9 ∧ 0 ≤ zs.sum ∧ zs.sum ≤ 54 := by
  obtain ⟨h1, h2⟩ := maxL_spec h.1
  have := h.2.1 _ h1
  have := sum_le h.2.1
  have := h.2.2
  omega
theorem dues_at {S M : Int} {ts : List Int} {n i : Nat} {j : Int} (h : i < n) (hj : j = i) : atI (iD (dues S M ts n)) j = some (.int (due S M ts i)) := by
  subst hj
  rw [iD_get (by rw [dues_len]; exact h)]
  unfold dues
  rw [List.getElem_map, List.getElem_range]
theorem rep_at {x : D} {n : Nat} : ∀ k, k < n → atI (List.replicate n x) ((k : Nat) : Int) = some x := fun k hk => by
  rw [Mw.atI_nat (by omega) (by rw [List.length_replicate]; omega), show ((k : Int)).toNat = k by omega, List.getElem?_replicate, if_pos hk]
theorem byL_up {b : Int} (hb : 0 < b) {ts : List Int} (h : Up ts) : Up (byL b ts) := by
  intro i hi
  rw [byL_len] at hi
  rw [byL_getD, byL_getD]
  exact Int.mul_le_mul_of_nonneg_left (h i hi) (Int.le_of_lt hb)
theorem closed_right_ok {ts zs ys : List Int} {b form : Int} (ht : GT ts) (hz : GZ zs) (hy : GZ ys) (es : ys.sum = zs.sum) (em : maxL ys = maxL zs) (hb : 1 ≤ b ∧ b ≤ 10000) :
    F__law_closed_right [.fro (.tuple (iD ts)), .fro (.tuple (iD zs)), .fro (.tuple (iD ys)), .fro (.int b), .fro (.int form)] = .ok (.fro (.bool true)) none := by
  refine fd_post (R := fun r => r = .ok (.fro (.bool true)) none) rfl ?_
  obtain ⟨tn, tu, tb, tl⟩ := ht
  have zN := hz.nums
  obtain ⟨zn, zb, zl⟩ := hz
  obtain ⟨yn, yb, yl⟩ := hy
  have z1 : ∀ z ∈ zs, 1 ≤ z := fun z h => (zb z h).1
  have y1 : ∀ z ∈ ys, 1 ≤ z := fun z h => (yb z h).1
  have tp := List.length_pos_iff.mpr tn
  have zp := List.length_pos_iff.mpr zn
  have hlen : (iD ts).length = ts.length := iD_len ts
  have h1s : 1 ≤ SZ := by decide
  have h2s : 2 ≤ SZ := by decide
  obtain ⟨o, ho, hev⟩ := mulA_n (x := .tuple (iD zs)) (n := ((iD ts).length : Int)) (by omega) (by omega)
  have en : (((iD ts).length : Int)).toNat = ts.length := by omega
  rw [en] at hev
  simp only [Out.ev] at hev
  have hends := ends_is (ts := ts) (zs := zs) zn (rep_at (x := .tuple (iD zs)) (n := ts.length)) (by omega) (by omega)
  generalize hR : List.replicate ts.length (PyData.tuple (iD zs)) = R at hev hends
  have hmt : ∀ x ∈ ts, mulOk b x = true := fun x hx => by
    obtain ⟨i, rfl, _⟩ := getD_mem hx
    have := tb i
    exact mulOk_b (by rw [BB_is]; omega) (by rw [BB_is]; omega) (by rw [BB_is]; omega) (by rw [BB_is]; omega)
  have hmz : ∀ x ∈ zs, mulOk b x = true := fun x hx => by
    have := zb x hx
    exact mulOk_b (by rw [BB_is]; omega) (by rw [BB_is]; omega) (by rw [BB_is]; omega) (by rw [BB_is]; omega)
  have hmd : ∀ i, i < 10 → mulOk b (due zs.sum (maxL zs) ts i) = true := fun i hi => by
    have h1 := due_le (S := zs.sum) (M := maxL zs) (by omega) ts (fun i => (tb i).2) i
    have h2 := due_ge (S := zs.sum) (M := maxL zs) ts i
    have h3 := tb i
    have h4 : (i : Int) * maxL zs ≤ 10 * 9 := Int.mul_le_mul (by omega) (by omega) (by omega) (by omega)
    exact mulOk_b (by rw [BB_is]; omega) (by rw [BB_is]; omega) (by rw [BB_is]; omega) (by rw [BB_is]; omega)
  have hr1 : rOk 1 = true := by decide
  have hr2 : rOk (((iD ts).length : Int) + 1) = true := rOk_small (by omega) (by omega)
  have hlr : (rngL 1 (((iD ts).length : Int) + 1 - 1).toNat).length = ts.length := by rw [rngL_len]; omega
  simp_arith [d__law_closed_right, h1s, ho, hev, hends]
  refine mul_ten (by omega) hmt ?_
  simp_arith []
  refine mul_elv (by omega) hmz ?_
  simp_arith [hr1, hr2]
  refine for_nx (fun i g => ∃ o8 o9, g = [.fro (.tuple (iD ts)), .fro (.tuple (iD zs)), .fro (.tuple (iD ys)), .fro (.int b), .fro (.int form), .fro (.tuple (iD (dues zs.sum (maxL zs) ts ts.length))), .fro (.tuple (iD (byL b ts))), .fro (.tuple (iD (byL b zs))), opn o8, opn o9, .un, .un]) ⟨none, none, rfl⟩ ?_ ?_
  · rintro i d g hi ⟨o8, o9, rfl⟩
    obtain ⟨rfl, hlt⟩ := rngL_at hi
    have hi2 : i < ts.length := by omega
    have ec : (1 + (i : Int)) = ((i + 1 : Nat) : Int) := by omega
    have hc1 : F__law_heard [.fro (.int 0), .fro (.tuple (iD ts)), .fro (.tuple (iD zs)), .fro (.int (1 + (i : Int)))] = .ok (.fro (.tuple [.str "told", .int (due zs.sum (maxL zs) ts i)])) none := by
      rw [ec]; exact heard0 (closed_ok tn tu (by omega) zn z1 (by omega) hi2)
    have hc2 : F__law_heard [.fro (.int 0), .fro (.tuple (iD ts)), .fro (.tuple (iD ys)), .fro (.int (1 + (i : Int)))] = .ok (.fro (.tuple [.str "told", .int (due zs.sum (maxL zs) ts i)])) none := by
      rw [ec, ← es, ← em]; exact heard0 (closed_ok tn tu (by omega) yn y1 (by omega) hi2)
    have hc3 : F__law_heard [.fro (.int 0), .fro (.tuple (iD ts)), .fro (.list (iD ys)), .fro (.int (1 + (i : Int)))] = .ok (.fro (.tuple [.str "told", .int (due zs.sum (maxL zs) ts i)])) none := by
      rw [ec, ← es, ← em]; exact heard0 (closed_okL tn tu (by omega) yn y1 (by omega) hi2)
    have hc4 : F__law_heard [.fro (.int 0), .fro (.tuple (iD (byL b ts))), .fro (.tuple (iD (byL b zs))), .fro (.int (1 + (i : Int)))] = .ok (.fro (.tuple [.str "told", .int (b * due zs.sum (maxL zs) ts i)])) none := by
      rw [ec, ← due_by (by omega), ← byL_sum, ← byL_max (by omega) zn]
      refine heard0 (closed_ok (byL_ne tn) (byL_up (by omega) tu) (by rw [byL_len]; omega) (byL_ne zn) (fun z hz => ?_) (by rw [byL_len]; omega) (by rw [byL_len]; omega))
      · obtain ⟨x, hx, rfl⟩ := List.mem_map.mp hz
        have := Int.mul_le_mul_of_nonneg_left (z1 x hx) (by omega : (0 : Int) ≤ b)
        omega
    have hx := dues_at (S := zs.sum) (M := maxL zs) (ts := ts) (j := 1 + (i : Int) - 1) hi2 (by omega)
    have hm := hmd i (by omega)
    by_cases c : 0 < form
    · have hf : decide (0 < form) = true := decide_eq_true c
      simp_arith [hf, hc1, hc3, hc4, hx, hm, h2s, told_i]
      exact ⟨some _, some _, rfl⟩
    · have hf : decide (0 < form) = false := decide_eq_false c
      simp_arith [hf, hc1, hc2, hc4, hx, hm, h2s, told_i]
      exact ⟨some _, some _, rfl⟩
  · rintro g ⟨o8, o9, rfl⟩
    obtain ⟨m, hm⟩ : ∃ m, ts.length = m + 1 := ⟨ts.length - 1, by omega⟩
    have en2 : ((iD ts).length : Int) = ((m + 1 : Nat) : Int) := by omega
    have hx := dues_at (S := zs.sum) (M := maxL zs) (ts := ts) (n := ts.length) (i := m) (j := ((iD ts).length : Int) - 1) (by omega) (by omega)
    have hmm := hmd m (by omega)
    obtain ⟨o2, ho2, hev2⟩ := mulA_n (x := .tuple (iD ys)) (n := ((iD ts).length : Int)) (by omega) (by omega)
    have ho3 := mulA_l (x := .tuple (iD (byL b zs))) (n := ((iD ts).length : Int)) (by omega) (by omega)
    rw [en] at hev2 ho3
    simp only [Out.ev] at hev2
    have hd1 : F_done_at [.fro (.tuple (iD ts)), .fro (.tuple (List.replicate ts.length (.tuple (iD ys)))), .fro (.int ((iD ts).length : Int))] = .ok (.fro (.int (due zs.sum (maxL zs) ts m))) none := by
      rw [en2, ← es, ← em]
      exact done_ok (.inl rfl) tn tu (by omega) yn y1 (by omega) (by omega)
    have hd2 : F_done_at [.fro (.tuple (iD (byL b ts))), .fro (.list (List.replicate ts.length (.tuple (iD (byL b zs))))), .fro (.int ((iD ts).length : Int))] = .ok (.fro (.int (b * due zs.sum (maxL zs) ts m))) none := by
      rw [en2, ← due_by (by omega), ← byL_sum, ← byL_max (by omega) zn]
      refine done_ok (.inr (by rw [byL_len])) (byL_ne tn) (byL_up (by omega) tu) (by rw [byL_len]; omega) (byL_ne zn) (fun z hz => ?_) (by rw [byL_len]; omega) (by rw [byL_len]; omega)
      · obtain ⟨x, hx, rfl⟩ := List.mem_map.mp hz
        have := Int.mul_le_mul_of_nonneg_left (z1 x hx) (by omega : (0 : Int) ≤ b)
        omega
    generalize hR2 : List.replicate ts.length (PyData.tuple (iD ys)) = R2 at hev2 hd1
    generalize hR3 : List.replicate ts.length (PyData.tuple (iD (byL b zs))) = R3 at ho3 hd2
    simp_arith [ho2, hev2, ho3, hd1, hd2, hx, hmm, just_i, h1s]
    exact ⟨_, rfl, rfl⟩
end G82
namespace G82
open PySem L2 Mw
theorem ends_rep {ts zs : List Int} {n : Nat} (zn : zs ≠ []) (hz : zs.length ≤ 1000) (ht : ts.length ≤ 1000) (hn : ts.length = n) : F__law_ends [.fro (.tuple (iD ts)), .fro (.tuple (List.replicate n (.tuple (iD zs))))] = .ok (.fro (.tuple (iD (dues zs.sum (maxL zs) ts ts.length)))) none := by
  subst hn
  exact ends_is zn (rep_at (x := .tuple (iD zs))) hz ht
theorem mul_five {d : Int} {x0 x2 x3 x4 x6 : Sl} {Q : List D → List Sl → Prop} (hm : ∀ i : Nat, i < 9 → mulOk d i = true)
    (q : Q (iD ((List.range 9).map fun i : Nat => d * i)) [x0, .fro (.int d), x2, x3, x4, .un, x6]) : Post Q (fun _ _ _ _ => False) (lcL [5] (.one 5) (ret true) (op2 mulA (vr 1) (vr 5)) [] (rngL 0 (9 : Int).toNat) [x0, .fro (.int d), x2, x3, x4, .un, x6]) := by
  have hlr : (rngL 0 (9 : Int).toNat).length = 9 := rngL_len ..
  refine lc_wp (fun i acc g => g = [x0, .fro (.int d), x2, x3, x4, .un, x6] ∧ acc = iD ((List.range i).map fun i : Nat => d * i)) ⟨rfl, rfl⟩ ?_ ?_
  · rintro i e acc g hi ⟨rfl, rfl⟩
    obtain ⟨rfl, hlt⟩ := rngL_at hi
    have hlt2 : i < 9 := hlt
    have hs : (iD ((List.range i).map fun i : Nat => d * i)).length < SZ := by
      have : SZ = 16777216 := rfl
      rw [iD_len, List.length_map, List.length_range]; omega
    have h1 := hm i hlt2
    simp_arith [h1, hs]
    refine ⟨trivial, trivial, ?_⟩
    rw [List.range_succ, List.map_append, iD_app]
    rfl
  · rintro acc g ⟨rfl, rfl⟩
    rw [hlr]
    exact q
theorem stream_right_ok {zs : List Int} {d great : Int} (hz : GZ zs) (hd : 0 ≤ d ∧ d ≤ 30) (hg : 10000000000000000000000000 ≤ great ∧ great ≤ 10000000000000000000000059) :
    F__law_stream_right [.fro (.tuple (iD zs)), .fro (.int d), .fro (.int great)] = .ok (.fro (.bool true)) none := by
  refine fd_post (R := fun r => r = .ok (.fro (.bool true)) none) rfl ?_
  have zN := hz.nums
  obtain ⟨zn, zb, zl⟩ := hz
  have z1 : ∀ z ∈ zs, 1 ≤ z := fun z h => (zb z h).1
  have h1s : 1 ≤ SZ := by decide
  have h2s : 2 ≤ SZ := by decide
  have h4s : 4 ≤ SZ := by decide
  have hr9 : rOk 9 = true := by decide
  generalize hA : ((List.range 9).map fun i : Nat => d * i) = ts
  have tl : ts.length = 9 := by rw [← hA, List.length_map, List.length_range]
  have td : ∀ i, i < 9 → ts.getD i 0 = d * i := fun i hi => by
    rw [← hA, List.getD_eq_getElem?_getD, List.getElem?_map, List.getElem?_range hi]; rfl
  obtain ⟨o, ho, hev⟩ := mulA_n (x := .tuple (iD zs)) (n := 9) (by omega) (by omega)
  rw [show (9 : Int).toNat = 9 from rfl] at hev
  simp only [Out.ev] at hev
  have hends := ends_rep (ts := ts) (zs := zs) (n := 9) zn (by omega) (by omega) tl
  generalize hR : List.replicate 9 (PyData.tuple (iD zs)) = R at hev hends
  rw [tl] at hends
  have hmx : ∀ a b : Int, -100 ≤ a ∧ a ≤ 10000000000000000000000059 → -100 ≤ b ∧ b ≤ 10000000000000000000000059 → mulOk a b = true := fun a b ha hb =>
    mulOk_b (by rw [BB_is]; omega) (by rw [BB_is]; omega) (by rw [BB_is]; omega) (by rw [BB_is]; omega)
  have due9 : ∀ i, i < 9 → due zs.sum (maxL zs) ts i = zs.sum + i * (if maxL zs > d then maxL zs else d) := due_even td
  simp_arith [d__law_stream_right, hr9]
  refine mul_five (fun i hi => hmx _ _ (by omega) (by omega)) ?_
  rw [hA]
  simp_arith [h1s, ho, hev, hends, h4s]
  refine for_nx (fun i g => ∃ o5, g = [.fro (.tuple (iD zs)), .fro (.int d), .fro (.int great), .fro (.tuple (iD ts)), .fro (.tuple (iD (dues zs.sum (maxL zs) ts 9))), opn o5, .un]) ⟨none, rfl⟩ ?_ ?_
  · rintro i e g hi ⟨o5, rfl⟩
    obtain ⟨k, rfl, hk⟩ : ∃ k : Nat, e = .int k ∧ k < 9 := by
      have := List.mem_of_getElem? hi
      simp only [List.mem_cons, List.not_mem_nil, or_false] at this
      rcases this with rfl | rfl | rfl | rfl
      · exact ⟨0, rfl, by omega⟩
      · exact ⟨1, rfl, by omega⟩
      · exact ⟨2, rfl, by omega⟩
      · exact ⟨8, rfl, by omega⟩
    have hx := dues_at (S := zs.sum) (M := maxL zs) (ts := ts) (n := 9) (i := k) (j := (k : Int)) hk rfl
    have hh := heard1 (stream_ok (zs := zs) (d := d) (i := (k : Int)) zn z1 (by omega) hd.1 (by omega) (hmx _ _ (by omega) (by split <;> omega)))
    rw [← due9 k hk] at hh
    simp_arith [hh, hx, h2s, told_i]
    exact ⟨some _, rfl⟩
  · rintro g ⟨o5, rfl⟩
    have hh1 := heard1 (stream_ok (zs := zs) (d := d) (i := great) zn z1 (by omega) hd.1 (by omega) (hmx _ _ (by omega) (by split <;> omega)))
    have hh2 := heard1 (stream_ok (zs := zs) (d := great) (i := 7) zn z1 (by omega) (by omega) (by omega) (hmx _ _ (by omega) (by split <;> omega)))
    have m1 : mulOk great (if maxL zs > d then maxL zs else d) = true := hmx _ _ (by omega) (by split <;> omega)
    have m2 : mulOk 7 (if maxL zs > great then maxL zs else great) = true := hmx _ _ (by omega) (by split <;> omega)
    have x8 : atI (iD (dues zs.sum (maxL zs) ts 9)) 8 = some (.int (zs.sum + 8 * (if maxL zs > d then maxL zs else d))) := by
      have := dues_at (S := zs.sum) (M := maxL zs) (ts := ts) (n := 9) (i := 8) (j := 8) (by omega) rfl
      rw [due9 8 (by omega)] at this
      exact this
    have x0 : atI (iD (dues zs.sum (maxL zs) ts 9)) 0 = some (.int zs.sum) := by
      have := dues_at (S := zs.sum) (M := maxL zs) (ts := ts) (n := 9) (i := 0) (j := 0) (by omega) rfl
      rw [due9 0 (by omega)] at this
      rw [this]; simp
    have a8 : atI (iD ts) 8 = some (.int (d * 8)) := by
      have := iD_get (ns := ts) (i := 8) (by omega)
      have e := td 8 (by omega)
      rw [List.getD_eq_getElem?_getD, List.getElem?_eq_getElem (by omega : 8 < ts.length)] at e
      rw [show (8 : Int) = ((8 : Nat) : Int) from rfl, this]
      exact congrArg (fun x => some (PyData.int x)) e
    generalize hmd : (if maxL zs > d then maxL zs else d) = md at hh1 m1 x8
    have hmd2 : (if d < maxL zs then maxL zs else d) = md := hmd
    generalize hmg : (if maxL zs > great then maxL zs else great) = mg at hh2 m2
    have hmg2 : (if great < maxL zs then maxL zs else great) = mg := hmg
    by_cases c : d = 0
    · have hc : decide (d = 0) = true := decide_eq_true c
      simp_arith [hh1, hh2, m1, m2, sumF_i, maxF_i zn, hmd, hmg, hmd2, hmg2, h2s, told_i, hc]
      exact ⟨_, rfl, rfl⟩
    · have hc : decide (d = 0) = false := decide_eq_false c
      have hl := heard3 (c := .int 0) (lag_ok (zs := zs) (d := d) zn z1 (by omega) (by omega))
      by_cases c2 : d < maxL zs
      · have hc2 : decide (d < maxL zs) = true := decide_eq_true c2
        rw [if_neg (by omega)] at hl
        have hc3 : decide (zs.sum < zs.sum + 8 * md - d * 8) = true := decide_eq_true (by
          rw [if_pos c2] at hmd; omega)
        simp_arith [hh1, hh2, m1, m2, sumF_i, maxF_i zn, hmd, hmg, hmd2, hmg2, h2s, told_i, hc, hc2, hl, x8, x0, a8, hc3, told_end]
        exact ⟨_, rfl, rfl⟩
      · have hc2 : decide (d < maxL zs) = false := decide_eq_false c2
        rw [if_pos (by omega)] at hl
        have hc3 : decide (zs.sum + 8 * md - d * 8 = zs.sum) = true := decide_eq_true (by
          rw [if_neg c2] at hmd; omega)
        simp_arith [hh1, hh2, m1, m2, sumF_i, maxF_i zn, hmd, hmg, hmd2, hmg2, h2s, told_i, hc, hc2, hl, x8, x0, a8, hc3]
        exact ⟨_, rfl, rfl⟩
end G82
namespace G82
open PySem L2 Mw
/-- how many of S, S + M, .. are at most h -/
def cntP (S M h : Int) : Int := if h - S < 0 then 0 else (h - S) / M + 1
theorem cnt_at {S M h : Int} (hM : 1 ≤ M) (i : Nat) : S + i * M ≤ h ↔ (i : Int) < cntP S M h := by
  unfold cntP
  have hp : 0 ≤ (i : Int) * M := Int.mul_nonneg (by omega) (by omega)
  split
  · constructor
    · intro; omega
    · intro; omega
  · have := Int.le_ediv_iff_mul_le (a := (i : Int)) (b := h - S) (c := M) (by omega)
    constructor
    · intro k
      have := this.mpr (by omega)
      omega
    · intro k
      have := this.mp (by omega)
      omega
theorem cnt_in {h S M : Int} {ts : List Int} {x0 x1 x2 x4 x5 x6 : Sl} {Q : List D → List Sl → Prop} (hM : 1 ≤ M) (hd : ∀ i, i < 12 → due S M ts i = S + i * M) (hc : cntP S M h ≤ 12) (h0 : 0 ≤ cntP S M h)
    (q : ∀ acc : List D, (acc.length : Int) = cntP S M h → Q acc [x0, x1, x2, .fro (.int h), x4, x5, x6, .un]) : Post Q (fun _ _ _ _ => False) (lcL [7] (.one 7) (tstE (op2 leD (vr 7) (vr 3))) (vr 7) [] (iD (dues S M ts 12)) [x0, x1, x2, .fro (.int h), x4, x5, x6, .un]) := by
  refine lc_wp (fun i acc g => g = [x0, x1, x2, .fro (.int h), x4, x5, x6, .un] ∧ i ≤ 12 ∧ (acc.length : Int) = if (i : Int) ≤ cntP S M h then (i : Int) else cntP S M h) ⟨rfl, by omega, by rw [if_pos (by omega)]; rfl⟩ ?_ ?_
  · rintro i d acc g hi ⟨rfl, hle, hl⟩
    have hlt : i < 12 := by have := (List.getElem?_eq_some_iff.mp hi).1; rwa [iD_len, dues_len] at this
    obtain rfl : d = .int (S + i * M) := by
      have := dues_at (S := S) (M := M) (ts := ts) (n := 12) (i := i) (j := (i : Int)) hlt rfl
      rw [Mw.atI_nat (by omega) (by rw [iD_len, dues_len]; omega), show ((i : Int)).toNat = i by omega, hi, hd i hlt] at this
      exact Option.some.inj this
    have hs : acc.length < SZ := by
      have : SZ = 16777216 := rfl
      split at hl <;> omega
    have hk := cnt_at (S := S) (h := h) hM i
    by_cases c : S + i * M ≤ h
    · have hcd : decide (S + i * M ≤ h) = true := decide_eq_true c
      simp_arith [hcd, hs]
      have := hk.mp c
      refine ⟨trivial, trivial, by omega, ?_⟩
      rw [List.length_append, List.length_singleton]
      split at hl <;> split <;> omega
    · have hcd : decide (S + i * M ≤ h) = false := decide_eq_false c
      simp_arith [hcd]
      have : ¬ (i : Int) < cntP S M h := fun x => c (hk.mpr x)
      refine ⟨trivial, by omega, ?_⟩
      split at hl <;> split <;> omega
  · rintro acc g ⟨rfl, hle, hl⟩
    refine q acc ?_
    rw [hl, iD_len, dues_len]
    split <;> omega
theorem at0 {a b : D} : atI [a, b] 0 = some a := rfl
theorem at1 {a b : D} : atI [a, b] 1 = some b := rfl
theorem at1c {a b : D} : atI [a, b] (((2 : Nat) : Int) - 1) = some b := rfl
theorem ne_told : neD (.str "told") (.str "told") = some (.val (.bool false)) := neD_ss (by have := pl_told; rwa [plB] at this)
theorem pass_right_ok {zs : List Int} {great : Int} (hz : GZ zs) (hg : 10000000000000000000000000 ≤ great ∧ great ≤ 10000000000000000000000059) :
    F__law_pass_right [.fro (.tuple (iD zs)), .fro (.int great)] = .ok (.fro (.bool true)) none := by
  have zN := hz.nums
  obtain ⟨zn, zb, zl⟩ := hz
  have z1 : ∀ z ∈ zs, 1 ≤ z := fun z h => (zb z h).1
  have h1s : 1 ≤ SZ := by decide
  have h2s : 2 ≤ SZ := by decide
  have h4s : 4 ≤ SZ := by decide
  have h7s : 7 ≤ SZ := by decide
  generalize hA : List.replicate 12 (0 : Int) = ts
  have tl : ts.length = 12 := by rw [← hA, List.length_replicate]
  have td : ∀ i, i < 12 → ts.getD i 0 = 0 * (i : Int) := fun i hi => by
    rw [← hA, List.getD_eq_getElem?_getD, List.getElem?_replicate, if_pos hi]; simp
  have due12 : ∀ i, i < 12 → due zs.sum (maxL zs) ts i = zs.sum + i * maxL zs := fun i hi => by
    have := due_even (S := zs.sum) (M := maxL zs) td i hi
    rwa [if_pos (by omega)] at this
  obtain ⟨o, ho, hev⟩ := mulA_n (x := .tuple (iD zs)) (n := 12) (by omega) (by omega)
  obtain ⟨o2, ho2, hev2⟩ := mulA_n (x := .int 0) (n := 12) (by omega) (by omega)
  rw [show (12 : Int).toNat = 12 from rfl] at hev hev2
  have hz12 : List.replicate 12 (PyData.int 0) = iD ts := by rw [← hA]; rfl
  rw [hz12] at hev2
  simp only [Out.ev] at hev hev2
  have hends := ends_rep (ts := ts) (zs := zs) (n := 12) zn (by omega) (by omega) tl
  generalize hR : List.replicate 12 (PyData.tuple (iD zs)) = R at hev hends
  rw [tl] at hends
  have hE : ∀ i : Nat, i < 12 → ∀ j : Int, j = i → atI (iD (dues zs.sum (maxL zs) ts 12)) j = some (.int (zs.sum + i * maxL zs)) := fun i hi j hj => by
    rw [dues_at hi hj, due12 i hi]
  have x0 : atI (iD (dues zs.sum (maxL zs) ts 12)) 0 = some (.int zs.sum) := by
    rw [hE 0 (by omega) 0 rfl]; simp
  have x3 := hE 3 (by omega) 3 rfl
  have x10 := hE 10 (by omega) 10 rfl
  have mz : mulOk great (maxL zs) = true := mulOk_b (by rw [BB_is]; omega) (by rw [BB_is]; omega) (by rw [BB_is]; omega) (by rw [BB_is]; omega)
  have gm : great ≤ great * maxL zs ∧ great * maxL zs ≤ great * 9 := by
    have h1 : great * 1 ≤ great * maxL zs := Int.mul_le_mul_of_nonneg_left (by omega) (by omega)
    have h2 : great * maxL zs ≤ great * 9 := Int.mul_le_mul_of_nonneg_left (by omega) (by omega)
    omega
  have dv : divOk (maxL zs) = true := divOk_b (by omega) (by rw [BB_is]; omega)
  refine fd_post (R := fun r => r = .ok (.fro (.bool true)) none) rfl ?_
  simp_arith [d__law_pass_right, h1s, ho, hev, ho2, hev2, hends, h7s, x0, x3, x10]
  refine for_nx (fun i g => ∃ o3 o4, g = [.fro (.tuple (iD zs)), .fro (.int great), .fro (.tuple (iD (dues zs.sum (maxL zs) ts 12))), opn o3, opn o4, .un, .un, .un]) ⟨none, none, rfl⟩ ?_ ?_
  · rintro i e g hi ⟨o3, o4, rfl⟩
    obtain ⟨h, rfl, hh1, hh2⟩ : ∃ h : Int, e = .int h ∧ h ≤ zs.sum + 10 * maxL zs ∧ -100000000000000000000000000 ≤ h := by
      have := List.mem_of_getElem? hi
      simp only [List.mem_cons, List.not_mem_nil, or_false] at this
      rcases this with rfl | rfl | rfl | rfl | rfl | rfl | rfl
      · exact ⟨_, rfl, by omega, by omega⟩
      · exact ⟨_, rfl, by omega, by omega⟩
      · exact ⟨_, rfl, by omega, by omega⟩
      · exact ⟨_, rfl, by omega, by omega⟩
      · exact ⟨_, rfl, by omega, by omega⟩
      · exact ⟨_, rfl, by omega, by omega⟩
      · exact ⟨_, rfl, by omega, by omega⟩
    have c0 : 0 ≤ cntP zs.sum (maxL zs) h := by
      unfold cntP
      split
      · omega
      · have := Int.ediv_nonneg (a := h - zs.sum) (b := maxL zs) (by omega) (by omega)
        omega
    have c12 : cntP zs.sum (maxL zs) h ≤ 11 := by
      have := cnt_at (S := zs.sum) (M := maxL zs) (h := h) (by omega) 11
      by_cases c : (11 : Int) < cntP zs.sum (maxL zs) h
      · have := this.mpr c
        omega
      · omega
    simp_arith []
    refine cnt_in (by omega) due12 (by omega) c0 fun acc hacc => ?_
    have hp := heard2 (c := .int 0) (pass_ok (zs := zs) (h := h) zn z1 (by omega) dv)
    have ep : (1 + (acc.length : Int)) = if h - zs.sum < 0 then 1 else (h - zs.sum) / maxL zs + 2 := by
      rw [hacc]
      unfold cntP
      split <;> omega
    rw [← ep] at hp
    simp_arith [hp, told_i, h2s]
    exact ⟨some _, some _, rfl⟩
  · rintro g ⟨o3, o4, rfl⟩
    simp_arith [sumF_i, maxF_i zn, mz, h4s]
    refine for_nx (fun i g => ∃ o3 o5 o6, g = [.fro (.tuple (iD zs)), .fro (.int great), .fro (.tuple (iD (dues zs.sum (maxL zs) ts 12))), opn o3, opn o4, opn o5, opn o6, .un]) ⟨o3, none, none, rfl⟩ ?_ ?_
    · rintro i e g hi ⟨o3, o5, o6, rfl⟩
      obtain ⟨h, rfl, hh1, hh2⟩ : ∃ h : Int, e = .int h ∧ great - 1 ≤ h ∧ h ≤ 100000000000000000000000000 := by
        have := List.mem_of_getElem? hi
        simp only [List.mem_cons, List.not_mem_nil, or_false] at this
        rcases this with rfl | rfl | rfl | rfl
        · exact ⟨_, rfl, by omega, by omega⟩
        · exact ⟨_, rfl, by omega, by omega⟩
        · exact ⟨_, rfl, by omega, by omega⟩
        · exact ⟨_, rfl, by omega, by omega⟩
      have hp := heard2 (c := .int 0) (pass_ok (zs := zs) (h := h) zn z1 (by omega) dv)
      rw [if_neg (by omega)] at hp
      have q0 := Int.ediv_nonneg (a := h - zs.sum) (b := maxL zs) (by omega) (by omega)
      have q1 := (Int.le_ediv_iff_mul_le (a := (h - zs.sum) / maxL zs) (b := h - zs.sum) (c := maxL zs) (by omega)).mp (Int.le_refl _)
      have q2 : ¬ ((h - zs.sum) / maxL zs + 1) * maxL zs ≤ h - zs.sum := fun c => by
        have := (Int.le_ediv_iff_mul_le (a := (h - zs.sum) / maxL zs + 1) (b := h - zs.sum) (c := maxL zs) (by omega)).mpr c
        omega
      generalize (h - zs.sum) / maxL zs = q at hp q0 q1 q2
      have q3 : q * 1 ≤ q * maxL zs := Int.mul_le_mul_of_nonneg_left (by omega) q0
      rw [Int.add_mul] at q2
      have e1 : q + 2 - 1 = q + 1 := by omega
      have e2 : q + 2 - 2 = q := by omega
      have f1 : decide (q + 2 < 1) = false := decide_eq_false (by omega)
      have f2 : decide (zs.sum + (q + 2 - 1) * maxL zs ≤ h) = false := decide_eq_false (by rw [e1, Int.add_mul]; omega)
      have f3 : decide (1 < q + 2) = true := decide_eq_true (by omega)
      have f4 : decide (h < zs.sum + (q + 2 - 2) * maxL zs) = false := decide_eq_false (by rw [e2]; omega)
      have m1 : mulOk (q + 2 - 1) (maxL zs) = true := mulOk_b (by rw [BB_is]; omega) (by rw [BB_is]; omega) (by rw [BB_is]; omega) (by rw [BB_is]; omega)
      have m2 : mulOk (q + 2 - 2) (maxL zs) = true := mulOk_b (by rw [BB_is]; omega) (by rw [BB_is]; omega) (by rw [BB_is]; omega) (by rw [BB_is]; omega)
      simp_arith [hp, at0, at1c, ne_told, f1, f2, f3, f4, m1, m2, sumF_i, maxF_i zn]
      exact ⟨some _, some _, some _, rfl⟩
    · rintro g ⟨o3, o5, o6, rfl⟩
      simp_arith []
      exact ⟨_, rfl, rfl⟩
end G82
namespace G82
open PySem L2 Mw
theorem join_okL {zs ys : List Int} (kn : zs ≠ []) (k1 : ∀ z ∈ zs, 1 ≤ z) (kz : zs.length ≤ 1000) (jn : ys ≠ []) (j1 : ∀ z ∈ ys, 1 ≤ z) (jz : ys.length ≤ 1000) :
    F_queue_join [.fro (.list (iD zs)), .fro (.list (iD ys))] = .ok (.fro (.tuple [.int (zs.sum + ys.sum), .int (if maxL ys > maxL zs then maxL ys else maxL zs)])) none := by
  refine fd_post (R := fun r => r = .ok (.fro (.tuple [.int (zs.sum + ys.sum), .int (if maxL ys > maxL zs then maxL ys else maxL zs)])) none) rfl ?_
  have hp := List.length_pos_iff.mpr jn
  have hl : decide (((iD ys).length : Int) = 0) = false := decide_eq_false (by rw [iD_len]; omega)
  have hr : rOk ((iD ys).length : Int) = true := rOk_small (by omega) (by rw [iD_len]; omega)
  have hlr : (rngL 0 ((iD ys).length : Int).toNat).length = ys.length := by rw [rngL_len, iD_len]; omega
  have h2 : 2 ≤ SZ := by decide
  simp_arith [d_queue_join, lengths_okL kn k1 kz, hl, hr]
  refine for_nx (fun i g => ∃ o, g = [.fro (.list (iD zs)), .fro (.list (iD ys)), .fro (.tuple (iD zs)), opn o]) ⟨none, rfl⟩ ?_ ?_
  · rintro i d g hi ⟨o, rfl⟩
    obtain ⟨rfl, hlt⟩ := rngL_at hi
    have hi2 : i < ys.length := by rw [iD_len] at hlt; omega
    have hx := iD_get hi2
    have h1 : decide (ys[i] < 1) = false := decide_eq_false (by have := j1 _ (List.getElem_mem hi2); omega)
    simp_arith [hx, isint_i, h1]
    exact ⟨some _, rfl⟩
  · rintro g ⟨o, rfl⟩
    simp_arith [sumF_i, maxF_i kn, maxF_i jn, h2]
    exact ⟨_, rfl, rfl⟩
theorem addT {xs ys : List D} (h : xs.length + ys.length ≤ 1000) : addD (.tuple xs) (.tuple ys) = some (.tupN (xs ++ ys)) := by
  show gd _ _ = _
  unfold gd
  have : SZ = 16777216 := rfl
  rw [decide_eq_true (by omega), if_pos rfl]
theorem joined_right_ok {ts zs ys : List Int} (ht : GT ts) (hz : GZ zs) (hy : GZ ys) : F__law_joined_right [.fro (.tuple (iD ts)), .fro (.tuple (iD zs)), .fro (.tuple (iD ys))] = .ok (.fro (.bool true)) none := by
  have zN := hz.nums
  have yN := hy.nums
  obtain ⟨tn, tu, tb, tl⟩ := ht
  obtain ⟨zn, zb, zl⟩ := hz
  obtain ⟨yn, yb, yl⟩ := hy
  have z1 : ∀ z ∈ zs, 1 ≤ z := fun z h => (zb z h).1
  have y1 : ∀ z ∈ ys, 1 ≤ z := fun z h => (yb z h).1
  have bn : zs ++ ys ≠ [] := by simp [zn]
  have b1 : ∀ z ∈ zs ++ ys, 1 ≤ z := fun z h => by
    rcases List.mem_append.mp h with h | h
    · exact z1 z h
    · exact y1 z h
  have bl : (zs ++ ys).length ≤ 12 := by rw [List.length_append]; omega
  have tp := List.length_pos_iff.mpr tn
  have h1s : 1 ≤ SZ := by decide
  have h2s : 2 ≤ SZ := by decide
  have h3s : 3 ≤ SZ := by decide
  have hadd : addD (.tuple (iD zs)) (.tuple (iD ys)) = some (.tupN (iD (zs ++ ys))) := by rw [iD_app]; exact addT (by rw [iD_len, iD_len]; omega)
  have hlen : (iD ts).length = ts.length := iD_len ts
  obtain ⟨m, hm⟩ : ∃ m, ts.length = m + 1 := ⟨ts.length - 1, by omega⟩
  have en2 : ((iD ts).length : Int) = ((m + 1 : Nat) : Int) := by omega
  have en : (((iD ts).length : Int)).toNat = ts.length := by omega
  obtain ⟨o1, ho1, hev1⟩ := mulA_n (x := .tuple (iD zs)) (n := ((iD ts).length : Int)) (by omega) (by omega)
  obtain ⟨o2, ho2, hev2⟩ := mulA_n (x := .tuple (iD (zs ++ ys))) (n := ((iD ts).length : Int)) (by omega) (by omega)
  obtain ⟨o3, ho3, hev3⟩ := mulA_n (x := .tuple (iD ys)) (n := ((iD ts).length : Int)) (by omega) (by omega)
  rw [en] at hev1 hev2 hev3
  simp only [Out.ev] at hev1 hev2 hev3
  have hends1 := ends_rep (ts := ts) (zs := zs) (n := ts.length) zn (by omega) (by omega) rfl
  have hends2 := ends_rep (ts := ts) (zs := zs ++ ys) (n := ts.length) bn (by omega) (by omega) rfl
  have hd1 : F_done_at [.fro (.tuple (iD (dues zs.sum (maxL zs) ts ts.length))), .fro (.tuple (List.replicate ts.length (.tuple (iD ys)))), .fro (.int ((iD ts).length : Int))] = .ok (.fro (.int (due (zs ++ ys).sum (maxL (zs ++ ys)) ts m))) none := by
    rw [en2, ← due_join (n := ts.length) zn yn (by omega)]
    exact done_ok (.inl (by rw [dues_len])) (fun e => by have := dues_len zs.sum (maxL zs) ts ts.length; rw [e] at this; simp at this; omega) (dues_up (by omega) ts _) (by rw [dues_len]; omega) yn y1 (by omega) (by rw [dues_len]; omega)
  have hcl : F__law_heard [.fro (.int 0), .fro (.tuple (iD ts)), .fro (.tuple (iD (zs ++ ys))), .fro (.int ((iD ts).length : Int))] = .ok (.fro (.tuple [.str "told", .int (due (zs ++ ys).sum (maxL (zs ++ ys)) ts m)])) none := by
    rw [en2]
    exact heard0 (closed_ok tn tu (by omega) bn b1 (by omega) (by omega))
  have hx := dues_at (S := (zs ++ ys).sum) (M := maxL (zs ++ ys)) (ts := ts) (n := ts.length) (i := m) (j := ((iD ts).length : Int) - 1) (by omega) (by omega)
  generalize hR1 : List.replicate ts.length (PyData.tuple (iD zs)) = R1 at hev1 hends1
  generalize hR2 : List.replicate ts.length (PyData.tuple (iD (zs ++ ys))) = R2 at hev2 hends2
  generalize hR3 : List.replicate ts.length (PyData.tuple (iD ys)) = R3 at hev3 hd1
  have mx := maxL_app zn yn
  have sx := sum_app zs ys
  have hj1 := heard4 (c := .int 0) (join_ok zn z1 (by omega) yn y1 (by omega))
  have hj3 := heard4 (c := .int 0) (join_okL zn z1 (by omega) yn y1 (by omega))
  have hj2 := heard4 (c := .int 0) (join_ok yn y1 (by omega) zn z1 (by omega))
  have mx2 : (if maxL zs > maxL ys then maxL zs else maxL ys) = maxL (zs ++ ys) := by
    rw [mx]; split <;> split <;> omega
  rw [← mx, ← sx] at hj1 hj3
  rw [mx2, show ys.sum + zs.sum = (zs ++ ys).sum by omega] at hj2
  have hs1 := heard5 (b := .int 0) (c := .int 0) (sums_ok bn b1 (by omega))
  have hs2 := heard5 (b := .int 0) (c := .int 0) (sums_ok zn z1 (by omega))
  refine fd_post (R := fun r => r = .ok (.fro (.bool true)) none) rfl ?_
  simp_arith [d__law_joined_right, hadd, sumF_i, maxF_i bn, h2s, h3s]
  refine for_nx (fun i g => ∃ o5, g = [.fro (.tuple (iD ts)), .fro (.tuple (iD zs)), .fro (.tuple (iD ys)), .fro (.tuple (iD (zs ++ ys))), .fro (.tuple [.int (zs ++ ys).sum, .int (maxL (zs ++ ys))]), opn o5, .un, .un, .un]) ⟨none, rfl⟩ ?_ ?_
  · rintro i e g hi ⟨o5, rfl⟩
    have := List.mem_of_getElem? hi
    simp only [List.mem_cons, List.not_mem_nil, or_false] at this
    rcases this with rfl | rfl | rfl
    · simp_arith [at0, at1, hj1, h2s, told_p]
      exact ⟨some _, rfl⟩
    · simp_arith [at0, at1, hj2, h2s, told_p]
      exact ⟨some _, rfl⟩
    · simp_arith [at0, at1, hj3, h2s, told_p]
      exact ⟨some _, rfl⟩
  · rintro g ⟨o5, rfl⟩
    simp_arith [hs1, hs2, h1s, h2s, told_p, told_i, just_i, sumF_i, maxF_i zn, ho1, hev1, ho2, hev2, ho3, hev3, hends1, hends2, hd1, hcl, hx]
    exact ⟨_, rfl, rfl⟩
/-! ## refusals -/
/-- a wrong thing that is kept as it is -/
structure Wr (w : D) : Prop where
  ok : okD 5 w = true
  ok6 : okD 6 w = true
  same : tpD w = w
  pl : plB w = true
  sz : szD w ≤ 10
theorem pl_3 : plB (.str "3") = true := by decide +kernel
theorem pl_0 : plB (.str "0") = true := by decide +kernel
theorem pl_4 : plB (.str "4") = true := by decide +kernel
theorem Wr.n : Wr .none := ⟨rfl, rfl, rfl, rfl, by simp [szD]⟩
theorem Wr.i (n : Int) : Wr (.int n) := ⟨rfl, rfl, rfl, rfl, by simp [szD]⟩
theorem Wr.b (n : Bool) : Wr (.bool n) := ⟨rfl, rfl, rfl, rfl, by simp [szD]⟩
theorem Wr.s {x : Str} (h : plB (.str x) = true) : Wr (.str x) := ⟨rfl, rfl, rfl, h, by simp [szD]⟩
theorem Wr.t1 (n : Int) : Wr (.tuple [.int n]) := ⟨rfl, rfl, rfl, rfl, by simp [szD, szA]⟩
theorem Wr.t2 (n m : Int) : Wr (.tuple [.int n, .int m]) := ⟨rfl, rfl, rfl, rfl, by simp [szD, szA]⟩
theorem Wr.pair {w : D} (h : Wr w) (n : Int) : plB (.tuple [w, .int n]) = true ∧ szD (.tuple [w, .int n]) ≤ 1000 := by
  have := h.sz
  refine ⟨?_, by simp [szD, szA]; omega⟩
  rw [plB, plA, h.pl, plA, plA, plB]; rfl
def WL : List D := [.int 0, .none, .bool true, .int (-1), .str "3", .tuple [.int 2]]
theorem WL_ok {w : D} (h : w ∈ WL) : Wr w ∧ badW w = true := by
  simp only [WL, List.mem_cons, List.not_mem_nil, or_false] at h
  rcases h with rfl | rfl | rfl | rfl | rfl | rfl
  · exact ⟨.i _, rfl⟩
  · exact ⟨.n, rfl⟩
  · exact ⟨.b _, rfl⟩
  · exact ⟨.i _, rfl⟩
  · exact ⟨.s pl_3, rfl⟩
  · exact ⟨.t1 _, rfl⟩
def LL : List D := [.int (-1), .none, .bool true, .str "0", .tuple [.int 1]]
theorem LL_ok {w : D} (h : w ∈ LL) : Wr w ∧ bad0 w = true := by
  simp only [LL, List.mem_cons, List.not_mem_nil, or_false] at h
  rcases h with rfl | rfl | rfl | rfl | rfl
  · exact ⟨.i _, rfl⟩
  · exact ⟨.n, rfl⟩
  · exact ⟨.b _, rfl⟩
  · exact ⟨.s pl_0, rfl⟩
  · exact ⟨.t1 _, rfl⟩
def OL : List D := [.none, .str "4", .bool true, .tuple [.int 1, .int 2]]
theorem OL_ok {w : D} (h : w ∈ OL) : Wr w ∧ badI w = true := by
  simp only [OL, List.mem_cons, List.not_mem_nil, or_false] at h
  rcases h with rfl | rfl | rfl | rfl
  · exact ⟨.n, rfl⟩
  · exact ⟨.s pl_4, rfl⟩
  · exact ⟨.b _, rfl⟩
  · exact ⟨.t2 _ _, rfl⟩
def HL : List D := [.tuple [.none, .int (-1)], .tuple [.tuple [], .int (-1)], .tuple [.tuple [.int 5, .int 4], .int 1], .tuple [.tuple [.int 5, .none], .int 1], .tuple [.tuple [.bool true, .int 5], .int 0]]
theorem HL_ok {w : D} (h : w ∈ HL) : ∃ x s, w = .tuple [x, .int s] ∧ F_queue_times [.fro x] = .exn 3 "at" (.int s) none := by
  simp only [HL, List.mem_cons, List.not_mem_nil, or_false] at h
  rcases h with rfl | rfl | rfl | rfl | rfl
  · exact ⟨_, _, rfl, times_b0⟩
  · exact ⟨_, _, rfl, times_b1⟩
  · exact ⟨_, _, rfl, times_b2⟩
  · exact ⟨_, _, rfl, times_b3⟩
  · exact ⟨_, _, rfl, times_b4⟩
def BL (zs : List Int) (w : D) : List D := [.tuple [.none, .int (-1)], .tuple [.tuple [], .int (-1)], .tuple [.tuple (iD zs ++ [w]), .int (iD zs).length], .tuple [.tuple (w :: iD zs), .int 0], .tuple [.str "row", .int (-1)]]
theorem BL_ok {zs : List Int} {w b : D} (z1 : ∀ z ∈ zs, 1 ≤ z) (zl : zs.length ≤ 6) (hw : badW w = true) (h : b ∈ BL zs w) : ∃ x s, b = .tuple [x, .int s] ∧ BadArg x s := by
  simp only [BL, List.mem_cons, List.not_mem_nil, or_false] at h
  rcases h with rfl | rfl | rfl | rfl | rfl
  · exact ⟨_, _, rfl, .n⟩
  · exact ⟨_, _, rfl, .e⟩
  · refine ⟨_, _, rfl, ?_⟩
    rw [iD_len]
    exact .c z1 hw (by simp; omega)
  · exact ⟨_, _, rfl, .c (zs := []) (r := iD zs) (fun _ h => nomatch h) hw (by rw [iD_len]; simp; omega)⟩
  · exact ⟨_, _, rfl, .s _⟩
end G82
namespace G82
open PySem L2 Mw
theorem Up_pos {ts : List Int} (h : ts ≠ []) : 0 < ts.length := List.length_pos_iff.mpr h
theorem heard_bad {b : D} {a : Int} {i : Nat} (hi : i < 5) (h : BadArg b a) : F__law_heard [.fro (.int (1 + (i : Int))), .fro b, .fro .none, .fro .none] = .ok (.fro (.tuple [.str "number", .bool true, .bool false, .int a])) none := by
  obtain rfl | rfl | rfl | rfl | rfl : i = 0 ∨ i = 1 ∨ i = 2 ∨ i = 3 ∨ i = 4 := by omega
  · exact heardN1 (stream_badZ h.len)
  · exact heardN2 (pass_badZ h.len)
  · exact heardN3 (lag_badZ h.len)
  · exact heardN4 (join_badZ h.len)
  · exact heardN5 (sums_badZ h.len)
theorem refused_ok {T : List D} {ts zs : List Int} (hT : Tape T) (ht : GT ts) (hz : GZ zs) : ∃ T', F__law_refused [.bor T, .fro (.tuple (iD ts)), .fro (.tuple (iD zs))] = .ok (.fro (.bool true)) (some T') := by
  obtain ⟨tn, tu, tb, tl⟩ := ht
  obtain ⟨zn, zb, zl⟩ := hz
  have z1 : ∀ z ∈ zs, 1 ≤ z := fun z h => (zb z h).1
  obtain ⟨r1, T1, e1, r10, r11, hT1⟩ := ltake (m := 6) (by decide) hT
  obtain ⟨w, hw, wm⟩ := pick (L := WL) r10 r11
  obtain ⟨wr, wb⟩ := WL_ok wm
  unfold WL at hw
  obtain ⟨r2, T2, e2, r20, r21, hT2⟩ := ltake (m := 5) (by decide) hT1
  obtain ⟨bx, hb, bm⟩ := pick (L := BL zs w) r20 r21
  obtain ⟨b, a, rfl, hba⟩ := BL_ok z1 zl wb bm
  unfold BL at hb
  obtain ⟨r3, T3, e3, r30, r31, hT3⟩ := ltake (m := 5) (by decide) hT2
  obtain ⟨hx, hh, hm⟩ := pick (L := HL) r30 r31
  obtain ⟨x, s, rfl, htx⟩ := HL_ok hm
  unfold HL at hh
  obtain ⟨r4, T4, e4, r40, r41, hT4⟩ := ltake (m := 5) (by decide) hT3
  obtain ⟨l, hl, lm⟩ := pick (L := LL) r40 r41
  obtain ⟨lr, lb⟩ := LL_ok lm
  unfold LL at hl
  obtain ⟨r5, T5, e5, r50, r51, hT5⟩ := ltake (m := 4) (by decide) hT4
  obtain ⟨q, hq, qm⟩ := pick (L := OL) r50 r51
  obtain ⟨qr, qb⟩ := OL_ok qm
  unfold OL at hq
  have h0s : 0 ≤ SZ := by decide
  have h1s : 1 ≤ SZ := by decide
  have h2s : 2 ≤ SZ := by decide
  have h4s : 4 ≤ SZ := by decide
  have h5s : 5 ≤ SZ := by decide
  have h6s : 6 ≤ SZ := by decide
  have ha1 : addD (.tuple (iD zs)) (.tuple [w]) = some (.tupN (iD zs ++ [w])) := addT (by rw [iD_len]; simp; omega)
  have ha2 : addD (.tuple [w]) (.tuple (iD zs)) = some (.tupN (w :: iD zs)) := addT (by rw [iD_len]; simp; omega)
  have hr1 : rOk 1 = true := by decide
  have hr6 : rOk 6 = true := by decide
  have hlr : (rngL 1 (6 - 1 : Int).toNat).length = 5 := rngL_len ..
  have Ja : F__law_just [.fro (.tuple [.str "number", .bool true, .bool false, .int a]), .fro (.tuple [.str "number", .bool true, .bool false, .int a])] = .ok (.fro (.bool true)) none := just_num rfl (by simp [szD])
  have Jp : F__law_just [.fro (.tuple [.str "number", .bool true, .bool false, .tuple [.int a, .int (-1)]]), .fro (.tuple [.str "number", .bool true, .bool false, .tuple [.int a, .int (-1)]])] = .ok (.fro (.bool true)) none := just_num rfl (by simp [szD, szA])
  have Js : F__law_just [.fro (.tuple [.str "row", .bool true, .bool false, .int s]), .fro (.tuple [.str "row", .bool true, .bool false, .int s])] = .ok (.fro (.bool true)) none := just_row rfl (by simp [szD])
  have Jw : F__law_just [.fro (.tuple [.str "number", .bool true, .bool false, w]), .fro (.tuple [.str "number", .bool true, .bool false, w])] = .ok (.fro (.bool true)) none := just_num wr.pl (by have := wr.sz; omega)
  have Jn : F__law_just [.fro (.tuple [.str "number", .bool true, .bool false, .int ((iD ts).length + 1)]), .fro (.tuple [.str "number", .bool true, .bool false, .int ((iD ts).length + 1)])] = .ok (.fro (.bool true)) none := just_num rfl (by simp [szD])
  have Jl : F__law_just [.fro (.tuple [.str "number", .bool true, .bool false, .tuple [l, .int 0]]), .fro (.tuple [.str "number", .bool true, .bool false, .tuple [l, .int 0]])] = .ok (.fro (.bool true)) none := just_num (lr.pair 0).1 (lr.pair 0).2
  have Jw0 : F__law_just [.fro (.tuple [.str "number", .bool true, .bool false, .tuple [w, .int 0]]), .fro (.tuple [.str "number", .bool true, .bool false, .tuple [w, .int 0]])] = .ok (.fro (.bool true)) none := just_num (wr.pair 0).1 (wr.pair 0).2
  have Jq : F__law_just [.fro (.tuple [.str "number", .bool true, .bool false, .tuple [q, .int 0]]), .fro (.tuple [.str "number", .bool true, .bool false, .tuple [q, .int 0]])] = .ok (.fro (.bool true)) none := just_num (qr.pair 0).1 (qr.pair 0).2
  have tok := times_ok tn tu (by omega : ts.length ≤ 1000)
  have lok := lengths_ok zn z1 (by omega : zs.length ≤ 1000)
  have H1 := heardN0 (c := .none) (closed_badZ (c := .none) tok hba.len)
  have H2 := heardN4 (c := .int 0) (hba.join zn z1 (by omega))
  have H3 := heardR0 (b := b) (c := .none) (closed_badT htx)
  have H4 := heardN0 (closed_badI (c := w) tok lok (change_bad wb wr.ok6))
  have H5 := heardN0 (closed_badI (c := .int ((iD ts).length + 1)) tok lok (change_far (by omega)))
  have H6 := heardN1 (stream_badD (c := l) zn z1 (by omega) lb lr.ok)
  have H7 := heardN1 (stream_badI zn z1 (by omega) lb lr.ok)
  have H8 := heardN3 (c := .int 0) (lag_badD zn z1 (by omega) wb wr.ok)
  have H9 := heardN2 (c := .int 0) (pass_badH zn z1 (by omega) qb qr.ok)
  rw [wr.same] at H4 H8
  rw [lr.same] at H6 H7
  rw [qr.same] at H9
  refine fd_post (R := fun r => ∃ T', r = .ok (.fro (.bool true)) (some T')) rfl ?_
  simp_arith [d__law_refused, h0s, h1s, h2s, h5s, h6s, e1, hw, e2, hb, ha1, ha2, hr1, hr6]
  refine for_nx (fun i g => ∃ o6, g = [.bor T2, .fro (.tuple (iD ts)), .fro (.tuple (iD zs)), .fro w, .fro b, .fro (.int a), opn o6, .un, .un, .un, .un, .un]) ⟨none, rfl⟩ ?_ ?_
  · rintro i e g hi ⟨o6, rfl⟩
    obtain ⟨rfl, hlt⟩ := rngL_at hi
    have hh := heard_bad (i := i) hlt hba
    simp_arith [hh, Ja, h4s]
    exact ⟨some _, rfl⟩
  · rintro g ⟨o6, rfl⟩
    simp_arith [H1, H2, H3, Ja, Jp, Js, h0s, h1s, h2s, h4s, h5s, e3, hh]
    refine for_nx (fun i g => ∃ o9, g = [.bor T3, .fro (.tuple (iD ts)), .fro (.tuple (iD zs)), .fro w, .fro b, .fro (.int a), opn o6, .fro x, .fro (.int s), opn o9, .un, .un]) ⟨none, rfl⟩ ?_ ?_
    · rintro i e g hi ⟨o9, rfl⟩
      have := List.mem_of_getElem? hi
      simp only [List.mem_cons, List.not_mem_nil, or_false] at this
      rcases this with rfl | rfl
      · simp_arith [H4, Jw, h4s]
        exact ⟨some _, rfl⟩
      · simp_arith [H5, Jn, h4s]
        exact ⟨some _, rfl⟩
    · rintro g ⟨o9, rfl⟩
      simp_arith [H6, H7, H8, H9, Jl, Jw0, Jq, h1s, h2s, h4s, h5s, e4, hl, e5, hq]
      exact ⟨_, rfl, _, rfl⟩
/-! ## the law -/
theorem iD_drop (l : List Int) (n : Nat) : (iD l).drop n = iD (l.drop n) := (List.map_drop ..).symm
theorem iD_take (l : List Int) (n : Nat) : (iD l).take n = iD (l.take n) := (List.map_take ..).symm
theorem law_true : ∀ ns : List Int, ns.length ≤ 63 → F_law [.scr ns] = .ok (.fro (.bool true)) none := by
  intro ns hns
  obtain ⟨T0, e0, hT0⟩ := tape_ok ns
  rw [← e_tape] at e0
  obtain ⟨form, T1, e1, f0, f1, hT1⟩ := ltake (m := 2) (by decide) hT0
  obtain ⟨zs, T2, e2, hz, hT2⟩ := z_row_ok (f := 2) hT1 (by omega)
  obtain ⟨ys, T3, e3, hy, hT3⟩ := z_row_ok (f := 4) hT2 (by omega)
  obtain ⟨ts, T4, e4, ht, hT4⟩ := tied_ok hT3
  have zp := Up_pos hz.1
  obtain ⟨turn, T5, e5, t0, t1, hT5⟩ := ltake (m := ((iD zs).length : Int)) (by rw [iD_len]; omega) hT4
  obtain ⟨r6, T6, e6, r60, r61, hT6⟩ := ltake (m := 4) (by decide) hT5
  obtain ⟨b, hb, bm⟩ := pickI (L := [10000, 7, 1, 3]) r60 r61
  have hb2 : atI [PyData.int 10000, .int 7, .int 1, .int 3] r6 = some (.int b) := hb
  have bb : 1 ≤ b ∧ b ≤ 10000 := by
    simp only [List.mem_cons, List.not_mem_nil, or_false] at bm
    omega
  obtain ⟨r7, T7, e7, r70, r71, hT7⟩ := ltake (m := 6) (by decide) hT6
  obtain ⟨d, hd, dm⟩ := pickI (L := [1, 0, 2, 5, 9, 30]) r70 r71
  have hd2 : atI [PyData.int 1, .int 0, .int 2, .int 5, .int 9, .int 30] r7 = some (.int d) := hd
  have db : 0 ≤ d ∧ d ≤ 30 := by
    simp only [List.mem_cons, List.not_mem_nil, or_false] at dm
    omega
  obtain ⟨r8, T8, e8, r80, r81, hT8⟩ := ltake (m := 60) (by decide) hT7
  obtain ⟨T9, e9⟩ := refused_ok hT8 ht hz
  have h4s : 4 ≤ SZ := by decide
  have h6s : 6 ≤ SZ := by decide
  rw [iD_len] at t1
  obtain ⟨k, rfl⟩ : ∃ k : Nat, turn = k := ⟨turn.toNat, by omega⟩
  have hk : k < zs.length := by omega
  have c1 : slF (some (k : Int)) none (.tuple (iD zs)) = some (.tupN (iD (zs.drop k))) := by
    show some (Out.tupN (cutL _ _ _)) = _
    unfold cutL
    rw [HT.sIx_nat, HT.sIx_none, iD_len, Nat.min_eq_left (by omega), iD_drop, List.take_of_length_le (by rw [iD_len, List.length_drop]; exact Nat.le_refl _)]
  have c2 : slF none (some (k : Int)) (.tuple (iD zs)) = some (.tupN (iD (zs.take k))) := by
    show some (Out.tupN (cutL _ _ _)) = _
    unfold cutL
    rw [HT.sIx_nat, HT.sIx_none, iD_len, Nat.min_eq_left (by omega), List.drop_zero, Nat.sub_zero, iD_take]
  have c3 : addD (.tuple (iD (zs.drop k))) (.tuple (iD (zs.take k))) = some (.tupN (iD (zs.drop k ++ zs.take k))) := by
    rw [iD_app]
    exact addT (by rw [iD_len, iD_len, List.length_drop, List.length_take]; have := hz.2.2; omega)
  have c4 : (iD zs).reverse = iD zs.reverse := by
    unfold iD
    rw [List.map_reverse]
  have pm : ∀ z, z ∈ zs ↔ z ∈ zs.drop k ++ zs.take k := fun z => by
    have e := List.take_append_drop k zs
    rw [List.mem_append]
    constructor
    · intro h
      rw [← e] at h
      exact (List.mem_append.mp h).symm
    · rintro (h | h)
      · exact List.mem_of_mem_drop h
      · exact List.mem_of_mem_take h
  have ps : (zs.drop k ++ zs.take k).sum = zs.sum := by
    have e := sum_app (zs.take k) (zs.drop k)
    rw [List.take_append_drop] at e
    rw [sum_app, e]; omega
  have pl : (zs.drop k ++ zs.take k).length = zs.length := by rw [List.length_append, List.length_drop, List.length_take]; omega
  have hyz : GZ (zs.drop k ++ zs.take k) := ⟨fun e => by rw [e] at pl; simp at pl; omega, fun z h => hz.2.1 z ((pm z).mpr h), by rw [pl]; exact hz.2.2⟩
  have hrz : GZ zs.reverse := ⟨by simp [hz.1], fun z h => hz.2.1 z (by simpa using h), by rw [List.length_reverse]; exact hz.2.2⟩
  have K1 := closed_right_ok (form := form) ht hz hyz ps (maxL_same hz.1 pm) bb
  have K2 := closed_right_ok (b := 1) (form := form) ht hz hrz (sum_rev zs) (maxL_same hz.1 (fun z => by simp)) (by omega)
  have K3 := stream_right_ok (zs := zs) (d := d) (great := 10000000000000000000000000 + r8) hz db (by omega)
  have K4 := pass_right_ok (zs := zs) (great := 10000000000000000000000000 + r8) hz (by omega)
  have K5 := joined_right_ok ht hz hy
  refine fd_post (R := fun r => r = .ok (.fro (.bool true)) none) rfl ?_
  simp_arith [d_law, e0, e1, e2, e3, e4, e5, e6, hb2, e7, hd2, e8, e9, pow4, pow25, h4s, h6s, c1, c2, c3, c4, K1, K2, K3, K4, K5]
  exact ⟨_, rfl, rfl⟩
end G82
open PySem PySem.W PyProof.Rows Mw
set_option maxHeartbeats 0 in
theorem PySem.Challenge.cw_lastisdone_k82_queues_closed_holds : PySem.Challenge.rw_lastisdone_k82_queues_closed.Holds := by
  w_on; o_law; k_head; (case hw => w_witness2)
  k_fill
  refine L2.walk_of (l := PySem.Challenge.rw_lastisdone_k82_queues_closed) (n := 63) (k := 13) (x := "script") (CX := fun w => L2.CX PySem.Challenge.rw_lastisdone_k82_queues_closed.prog w) (sp := fun w => G82.spLaw _) rfl (by decide) rfl ⟨rfl, by decide, by decide⟩ (fun w h Y => PySem.W.kIn_of Y) ?F (fun _ _ a ns hl _ hS => ⟨a, ns, rfl, hS, hl, fun _ => rfl⟩) (fun _ _ _ _ _ h => by obtain ⟨_, _, _, _, _, _, _, _, _, _, _, _, z⟩ := h; exact z)
  case F =>
    intro w mg fa h KX G hmg
    refine' G82.all_mk G82.law_true KX G hmg ?a_DoneError ?a_BadNumber ?a_BadRow ?a_BadCase ?a_TooMany ?e_DoneError ?e_BadNumber ?e_BadRow ?e_BadCase ?e_TooMany ?kt_1_0 ?ex_1_0 ?kt_1_1 ?ex_1_1 ?kt_1_2 ?ex_1_2 ?kt_1_3 ?ex_1_3 ?kt_1_4 ?ex_1_4 ?kt_1_5 ?ex_1_5 ?f_1_at ?f_1_limit ?f_1_line ?kt_2_0 ?ex_2_0 ?kt_2_1 ?ex_2_1 ?kt_2_2 ?ex_2_2 ?kt_2_3 ?ex_2_3 ?kt_2_4 ?ex_2_4 ?kt_2_5 ?ex_2_5 ?f_2_at ?f_2_limit ?f_2_line ?kt_3_0 ?ex_3_0 ?kt_3_1 ?ex_3_1 ?kt_3_2 ?ex_3_2 ?kt_3_3 ?ex_3_3 ?kt_3_4 ?ex_3_4 ?kt_3_5 ?ex_3_5 ?f_3_at ?f_3_limit ?f_3_line ?kt_4_0 ?ex_4_0 ?kt_4_1 ?ex_4_1 ?kt_4_2 ?ex_4_2 ?kt_4_3 ?ex_4_3 ?kt_4_4 ?ex_4_4 ?kt_4_5 ?ex_4_5 ?f_4_at ?f_4_limit ?f_4_line ?kt_5_0 ?ex_5_0 ?kt_5_1 ?ex_5_1 ?kt_5_2 ?ex_5_2 ?kt_5_3 ?ex_5_3 ?kt_5_4 ?ex_5_4 ?kt_5_5 ?ex_5_5 ?f_5_at ?f_5_limit ?f_5_line ?o_BadNumber ?i_BadNumber ?t_BadNumber ?d_BadNumber ?o_BadRow ?i_BadRow ?t_BadRow ?d_BadRow ?o_TooMany ?i_TooMany ?t_TooMany ?d_TooMany ?a__law_ends ?d__law_ends ?a_tupled ?d_tupled ?a_is_int ?d_is_int ?a_queue_change ?d_queue_change ?a_queue_dues ?d_queue_dues ?a_queue_lengths ?d_queue_lengths ?a_queue_times ?d_queue_times ?a_closed_done ?d_closed_done ?a_least_to_pass ?d_least_to_pass ?a_queue_join ?d_queue_join ?a_queue_lag ?d_queue_lag ?a_queue_sums ?d_queue_sums ?a_stream_done ?d_stream_done ?a__law_heard ?d__law_heard ?a__law_just ?d__law_just ?a_queue_cells ?d_queue_cells ?a_queue_leavings ?d_queue_leavings ?a_queue_rows ?d_queue_rows ?a_queue_table ?d_queue_table ?a_done_at ?d_done_at ?a__law_closed_right ?d__law_closed_right ?a__law_joined_right ?d__law_joined_right ?a__law_pass_right ?d__law_pass_right ?a__law_take ?d__law_take ?a__law_refused ?d__law_refused ?a__law_stream_right ?d__law_stream_right ?a__law_tape ?d__law_tape ?a__law_tied ?d__law_tied ?a__law_z_row ?d__law_z_row ?a_law ?d_law ?z_abs ?z_all ?z_bool ?z_int ?z_isinstance ?z_len ?z_list ?z_max ?z_range ?z_str ?z_sum ?z_tuple ?k_MOST_CELLS
    (case a_DoneError => k_is)
    (case a_BadNumber => k_is)
    (case a_BadRow => k_is)
    (case a_BadCase => k_is)
    (case a_TooMany => k_is)
    (case e_DoneError => exact ⟨by k_is, by k_is, by k_is, by k_is, by k_is, by k_is, by k_is, by k_is⟩)
    (case e_BadNumber => exact ⟨by k_is, by k_is, by k_is, by k_is, by k_is, by k_is, by k_is, by k_is⟩)
    (case e_BadRow => exact ⟨by k_is, by k_is, by k_is, by k_is, by k_is, by k_is, by k_is, by k_is⟩)
    (case e_BadCase => exact ⟨by k_is, by k_is, by k_is, by k_is, by k_is, by k_is, by k_is, by k_is⟩)
    (case e_TooMany => exact ⟨by k_is, by k_is, by k_is, by k_is, by k_is, by k_is, by k_is, by k_is⟩)
    (case kt_1_0 => exact kit_ne (by decide +kernel) (kc_ve (by k_is)))
    (case ex_1_0 => exact exm_of (by k_is) (kc_ve (by k_is)))
    (case kt_1_1 => exact kit_eq)
    (case ex_1_1 => exact exm_of (by k_is) (kc_ref (by k_is) (by k_is) (by first | rfl | k_is)))
    (case kt_1_2 => exact kit_ne (by decide +kernel) (kc_ref (by k_is) (by k_is) (by first | rfl | k_is)))
    (case ex_1_2 => exact exm_of (by k_is) (kc_ref (by k_is) (by k_is) (by first | rfl | k_is)))
    (case kt_1_3 => exact kit_ne (by decide +kernel) (kc_ref (by k_is) (by k_is) (by first | rfl | k_is)))
    (case ex_1_3 => exact exm_of (by k_is) (kc_ref (by k_is) (by k_is) (by first | rfl | k_is)))
    (case kt_1_4 => exact kit_ne (by decide +kernel) (kc_ref (by k_is) (by k_is) (by first | rfl | k_is)))
    (case ex_1_4 => exact exm_of (by k_is) (kc_ref (by k_is) (by k_is) (by first | rfl | k_is)))
    (case kt_1_5 => exact kit_ne (by decide +kernel) (kc_ref (by k_is) (by k_is) (by first | rfl | k_is)))
    (case ex_1_5 => exact exm_of (by k_is) (kc_ref (by k_is) (by k_is) (by first | rfl | k_is)))
    (case f_1_at => k_is)
    (case f_1_limit => k_is)
    (case f_1_line => k_is)
    (case kt_2_0 => exact kit_ne (by decide +kernel) (kc_ve (by k_is)))
    (case ex_2_0 => exact exm_of (by k_is) (kc_ve (by k_is)))
    (case kt_2_1 => exact kit_ne (by decide +kernel) (kc_ref (by k_is) (by k_is) (by first | rfl | k_is)))
    (case ex_2_1 => exact exm_of (by k_is) (kc_ref (by k_is) (by k_is) (by first | rfl | k_is)))
    (case kt_2_2 => exact kit_eq)
    (case ex_2_2 => exact exm_of (by k_is) (kc_ref (by k_is) (by k_is) (by first | rfl | k_is)))
    (case kt_2_3 => exact kit_ne (by decide +kernel) (kc_ref (by k_is) (by k_is) (by first | rfl | k_is)))
    (case ex_2_3 => exact exm_of (by k_is) (kc_ref (by k_is) (by k_is) (by first | rfl | k_is)))
    (case kt_2_4 => exact kit_ne (by decide +kernel) (kc_ref (by k_is) (by k_is) (by first | rfl | k_is)))
    (case ex_2_4 => exact exm_of (by k_is) (kc_ref (by k_is) (by k_is) (by first | rfl | k_is)))
    (case kt_2_5 => exact kit_ne (by decide +kernel) (kc_ref (by k_is) (by k_is) (by first | rfl | k_is)))
    (case ex_2_5 => exact exm_of (by k_is) (kc_ref (by k_is) (by k_is) (by first | rfl | k_is)))
    (case f_2_at => k_is)
    (case f_2_limit => k_is)
    (case f_2_line => k_is)
    (case kt_3_0 => exact kit_ne (by decide +kernel) (kc_ve (by k_is)))
    (case ex_3_0 => exact exm_of (by k_is) (kc_ve (by k_is)))
    (case kt_3_1 => exact kit_ne (by decide +kernel) (kc_ref (by k_is) (by k_is) (by first | rfl | k_is)))
    (case ex_3_1 => exact exm_of (by k_is) (kc_ref (by k_is) (by k_is) (by first | rfl | k_is)))
    (case kt_3_2 => exact kit_ne (by decide +kernel) (kc_ref (by k_is) (by k_is) (by first | rfl | k_is)))
    (case ex_3_2 => exact exm_of (by k_is) (kc_ref (by k_is) (by k_is) (by first | rfl | k_is)))
    (case kt_3_3 => exact kit_eq)
    (case ex_3_3 => exact exm_of (by k_is) (kc_ref (by k_is) (by k_is) (by first | rfl | k_is)))
    (case kt_3_4 => exact kit_ne (by decide +kernel) (kc_ref (by k_is) (by k_is) (by first | rfl | k_is)))
    (case ex_3_4 => exact exm_of (by k_is) (kc_ref (by k_is) (by k_is) (by first | rfl | k_is)))
    (case kt_3_5 => exact kit_ne (by decide +kernel) (kc_ref (by k_is) (by k_is) (by first | rfl | k_is)))
    (case ex_3_5 => exact exm_of (by k_is) (kc_ref (by k_is) (by k_is) (by first | rfl | k_is)))
    (case f_3_at => k_is)
    (case f_3_limit => k_is)
    (case f_3_line => k_is)
    (case kt_4_0 => exact kit_ne (by decide +kernel) (kc_ve (by k_is)))
    (case ex_4_0 => exact exm_of (by k_is) (kc_ve (by k_is)))
    (case kt_4_1 => exact kit_ne (by decide +kernel) (kc_ref (by k_is) (by k_is) (by first | rfl | k_is)))
    (case ex_4_1 => exact exm_of (by k_is) (kc_ref (by k_is) (by k_is) (by first | rfl | k_is)))
    (case kt_4_2 => exact kit_ne (by decide +kernel) (kc_ref (by k_is) (by k_is) (by first | rfl | k_is)))
    (case ex_4_2 => exact exm_of (by k_is) (kc_ref (by k_is) (by k_is) (by first | rfl | k_is)))
    (case kt_4_3 => exact kit_ne (by decide +kernel) (kc_ref (by k_is) (by k_is) (by first | rfl | k_is)))
    (case ex_4_3 => exact exm_of (by k_is) (kc_ref (by k_is) (by k_is) (by first | rfl | k_is)))
    (case kt_4_4 => exact kit_eq)
    (case ex_4_4 => exact exm_of (by k_is) (kc_ref (by k_is) (by k_is) (by first | rfl | k_is)))
    (case kt_4_5 => exact kit_ne (by decide +kernel) (kc_ref (by k_is) (by k_is) (by first | rfl | k_is)))
    (case ex_4_5 => exact exm_of (by k_is) (kc_ref (by k_is) (by k_is) (by first | rfl | k_is)))
    (case f_4_at => k_is)
    (case f_4_limit => k_is)
    (case f_4_line => k_is)
    (case kt_5_0 => exact kit_ne (by decide +kernel) (kc_ve (by k_is)))
    (case ex_5_0 => exact exm_of (by k_is) (kc_ve (by k_is)))
    (case kt_5_1 => exact kit_ne (by decide +kernel) (kc_ref (by k_is) (by k_is) (by first | rfl | k_is)))
    (case ex_5_1 => exact exm_of (by k_is) (kc_ref (by k_is) (by k_is) (by first | rfl | k_is)))
    (case kt_5_2 => exact kit_ne (by decide +kernel) (kc_ref (by k_is) (by k_is) (by first | rfl | k_is)))
    (case ex_5_2 => exact exm_of (by k_is) (kc_ref (by k_is) (by k_is) (by first | rfl | k_is)))
    (case kt_5_3 => exact kit_ne (by decide +kernel) (kc_ref (by k_is) (by k_is) (by first | rfl | k_is)))
    (case ex_5_3 => exact exm_of (by k_is) (kc_ref (by k_is) (by k_is) (by first | rfl | k_is)))
    (case kt_5_4 => exact kit_ne (by decide +kernel) (kc_ref (by k_is) (by k_is) (by first | rfl | k_is)))
    (case ex_5_4 => exact exm_of (by k_is) (kc_ref (by k_is) (by k_is) (by first | rfl | k_is)))
    (case kt_5_5 => exact kit_eq)
    (case ex_5_5 => exact exm_of (by k_is) (kc_ref (by k_is) (by k_is) (by first | rfl | k_is)))
    (case f_5_at => k_is)
    (case f_5_limit => k_is)
    (case f_5_line => k_is)
    (case o_BadNumber => exact ⟨⟨_, _, _, _, _, _, _, _, _, _, _, _, _, _, _, by k_is, by decide +kernel⟩, by k_is, by k_is, by k_is, by k_is⟩)
    (case i_BadNumber => k_is)
    (case t_BadNumber => k_is)
    (case d_BadNumber => exact ⟨_, _, _, _, _, _, _, _, _, by k_is, by k_is, by k_is⟩)
    (case o_BadRow => exact ⟨⟨_, _, _, _, _, _, _, _, _, _, _, _, _, _, _, by k_is, by decide +kernel⟩, by k_is, by k_is, by k_is, by k_is⟩)
    (case i_BadRow => k_is)
    (case t_BadRow => k_is)
    (case d_BadRow => exact ⟨_, _, _, _, _, _, _, _, _, by k_is, by k_is, by k_is⟩)
    (case o_TooMany => exact ⟨⟨_, _, _, _, _, _, _, _, _, _, _, _, _, _, _, by k_is, by decide +kernel⟩, by k_is, by k_is, by k_is, by k_is⟩)
    (case i_TooMany => k_is)
    (case t_TooMany => k_is)
    (case d_TooMany => exact ⟨_, _, _, _, _, _, _, _, _, by k_is, by k_is, by k_is⟩)
    (case a__law_ends => k_is)
    (case d__law_ends => exact ⟨_, _, _, _, _, _, _, _, _, by k_is, by k_is, by k_is⟩)
    (case a_tupled => k_is)
    (case d_tupled => exact ⟨_, _, _, _, _, _, _, _, _, by k_is, by k_is, by k_is⟩)
    (case a_is_int => k_is)
    (case d_is_int => exact ⟨_, _, _, _, _, _, _, _, _, by k_is, by k_is, by k_is⟩)
    (case a_queue_change => k_is)
    (case d_queue_change => exact ⟨_, _, _, _, _, _, _, _, _, by k_is, by k_is, by k_is⟩)
    (case a_queue_dues => k_is)
    (case d_queue_dues => exact ⟨_, _, _, _, _, _, _, _, _, by k_is, by k_is, by k_is⟩)
    (case a_queue_lengths => k_is)
    (case d_queue_lengths => exact ⟨_, _, _, _, _, _, _, _, _, by k_is, by k_is, by k_is⟩)
    (case a_queue_times => k_is)
    (case d_queue_times => exact ⟨_, _, _, _, _, _, _, _, _, by k_is, by k_is, by k_is⟩)
    (case a_closed_done => k_is)
    (case d_closed_done => exact ⟨_, _, _, _, _, _, _, _, _, by k_is, by k_is, by k_is⟩)
    (case a_least_to_pass => k_is)
    (case d_least_to_pass => exact ⟨_, _, _, _, _, _, _, _, _, by k_is, by k_is, by k_is⟩)
    (case a_queue_join => k_is)
    (case d_queue_join => exact ⟨_, _, _, _, _, _, _, _, _, by k_is, by k_is, by k_is⟩)
    (case a_queue_lag => k_is)
    (case d_queue_lag => exact ⟨_, _, _, _, _, _, _, _, _, by k_is, by k_is, by k_is⟩)
    (case a_queue_sums => k_is)
    (case d_queue_sums => exact ⟨_, _, _, _, _, _, _, _, _, by k_is, by k_is, by k_is⟩)
    (case a_stream_done => k_is)
    (case d_stream_done => exact ⟨_, _, _, _, _, _, _, _, _, by k_is, by k_is, by k_is⟩)
    (case a__law_heard => k_is)
    (case d__law_heard => exact ⟨_, _, _, _, _, _, _, _, _, by k_is, by k_is, by k_is⟩)
    (case a__law_just => k_is)
    (case d__law_just => exact ⟨_, _, _, _, _, _, _, _, _, by k_is, by k_is, by k_is⟩)
    (case a_queue_cells => k_is)
    (case d_queue_cells => exact ⟨_, _, _, _, _, _, _, _, _, by k_is, by k_is, by k_is⟩)
    (case a_queue_leavings => k_is)
    (case d_queue_leavings => exact ⟨_, _, _, _, _, _, _, _, _, by k_is, by k_is, by k_is⟩)
    (case a_queue_rows => k_is)
    (case d_queue_rows => exact ⟨_, _, _, _, _, _, _, _, _, by k_is, by k_is, by k_is⟩)
    (case a_queue_table => k_is)
    (case d_queue_table => exact ⟨_, _, _, _, _, _, _, _, _, by k_is, by k_is, by k_is⟩)
    (case a_done_at => k_is)
    (case d_done_at => exact ⟨_, _, _, _, _, _, _, _, _, by k_is, by k_is, by k_is⟩)
    (case a__law_closed_right => k_is)
    (case d__law_closed_right => exact ⟨_, _, _, _, _, _, _, _, _, by k_is, by k_is, by k_is⟩)
    (case a__law_joined_right => k_is)
    (case d__law_joined_right => exact ⟨_, _, _, _, _, _, _, _, _, by k_is, by k_is, by k_is⟩)
    (case a__law_pass_right => k_is)
    (case d__law_pass_right => exact ⟨_, _, _, _, _, _, _, _, _, by k_is, by k_is, by k_is⟩)
    (case a__law_take => k_is)
    (case d__law_take => exact ⟨_, _, _, _, _, _, _, _, _, by k_is, by k_is, by k_is⟩)
    (case a__law_refused => k_is)
    (case d__law_refused => exact ⟨_, _, _, _, _, _, _, _, _, by k_is, by k_is, by k_is⟩)
    (case a__law_stream_right => k_is)
    (case d__law_stream_right => exact ⟨_, _, _, _, _, _, _, _, _, by k_is, by k_is, by k_is⟩)
    (case a__law_tape => k_is)
    (case d__law_tape => exact ⟨_, _, _, _, _, _, _, _, _, by k_is, by k_is, by k_is⟩)
    (case a__law_tied => k_is)
    (case d__law_tied => exact ⟨_, _, _, _, _, _, _, _, _, by k_is, by k_is, by k_is⟩)
    (case a__law_z_row => k_is)
    (case d__law_z_row => exact ⟨_, _, _, _, _, _, _, _, _, by k_is, by k_is, by k_is⟩)
    (case a_law => k_is)
    (case d_law => exact ⟨_, _, _, _, _, _, _, _, _, by k_is, by k_is, by k_is⟩)
    (case z_abs => k_is)
    (case z_all => k_is)
    (case z_bool => k_is)
    (case z_int => k_is)
    (case z_isinstance => k_is)
    (case z_len => k_is)
    (case z_list => k_is)
    (case z_max => k_is)
    (case z_range => k_is)
    (case z_str => k_is)
    (case z_sum => k_is)
    (case z_tuple => k_is)
    (case k_MOST_CELLS => k_is)
